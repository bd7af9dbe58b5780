import PyProof.Rows.All
import Wide.All
import OpenK.AllK
import Wide.FinOn
import HandS.ForMost
import HandS.ForExc
import HandS.Wide
import HandS.IsInst
import HandS.ExcIs
import HandS.ExcInit
import HandS.Flow
import HandS.Zip
import HandS.TupAny
import HandS.TupLe
import HandS.ListItems
import HandS.Defaults
import HandS.Text
import HandS.SetKeys
import HandS.ExcField
import HandS.StrMore
import HandS.Walk
import HandS.Codes
import KE.KDictZip
import KE.KDictItemsList
import HandS.Iter
import KE.GoesMore
import HandS.TupMul
import HandS.More
import KE.KExcIs
import PyProof.StrOps2
import PyProof.FactsAll.tuple_2
import KE.GoesEnumKw
import HandS.Replace
import PyProof.ToksMono
import HandS.MakeKw
import HandS.Rev
import KE.KDictPairs
import KE.DataFind
import KE.GoesZip
import KE.KeyNested
import PyProof.ListStr
import HandS.TupLen
import HandS.Conv
import PyProof.DictMoreH
import KE.DataMinMax
import HandS.Deep
import PyProof.SumAny
import KE.IntTextLaws
import HandS.IntHex
import HandS.FStr
import HandS.ExcInitHot
import HandS.SuiteRaise
import HandS.Style
import PyProof.Rows.StrOr
import KE.KIntText
import PySem.Challenge.RW_boughkept_k05_refusals
set_option pp.maxSteps 1200
set_option Elab.async false
set_option linter.all false
set_option maxRecDepth 100000
set_option maxHeartbeats 4000000
set_option Elab.async false
set_option linter.all false
set_option maxRecDepth 100000
set_option maxHeartbeats 4000000
/-! Bk1: readings that compute by themselves, over the hand layer. -/
namespace Bk
open PySem PySem.Spec PyProof.Rows L2
/-! ### heaps: what is kept -/
/-- every tracked object stands as it stood -/
def Ex (H H' : Hp) : Prop := ∀ a o, H a = some o → H' a = some o
/-- .. but what stands at l -/
def But (l : Addr) (H H' : Hp) : Prop := ∀ a o, a ≠ l → H a = some o → H' a = some o
/-- the tuples stand -/
def Tk (H H' : Hp) : Prop := ∀ a xs, H a = some (.tup xs) → H' a = some (.tup xs)
theorem Ex.refl (H : Hp) : Ex H H := fun _ _ h => h
theorem Ex.trans {H H1 H2 : Hp} (a : Ex H H1) (b : Ex H1 H2) : Ex H H2 := fun x o h => b x o (a x o h)
theorem Ex.new {H : Hp} {p : Addr} {o : HO} (h : H p = none) : Ex H (upd H p o) := fun a u e => by
  rw [upd_ne (ne_of_none e h)]
  exact e
theorem Ex.at_new {H H' : Hp} {p : Addr} {o : HO} (x : Ex H H') (h : H p = none) : Ex H (upd H' p o) := fun a u e => by
  rw [upd_ne (ne_of_none e h)]
  exact x a u e
theorem Ex.free {H H' : Hp} {p : Addr} (e : Ex H H') (h : H' p = none) : H p = none := by
  cases q : H p with
  | none => rfl
  | some o => rw [e p o q] at h; cases h
theorem Ex.but {H H' : Hp} (l : Addr) (e : Ex H H') : But l H H' := fun a o _ h => e a o h
theorem But.refl (l : Addr) (H : Hp) : But l H H := fun _ _ _ h => h
theorem But.trans {l : Addr} {H H1 H2 : Hp} (a : But l H H1) (b : But l H1 H2) : But l H H2 := fun x o n h => b x o n (a x o n h)
theorem But.upd {l : Addr} {H H' : Hp} {o : HO} (a : But l H H') : But l H (upd H' l o) := fun x u n h => by
  rw [upd_ne n]
  exact a x u n h
theorem But.get {l a : Addr} {H H' : Hp} {o u : HO} (b : But l H H') (hl : H l = some u) (h : H a = some o) (d : o ≠ u) : H' a = some o := b a o (ne_of h hl d) h
theorem Ex.tk {H H' : Hp} (e : Ex H H') : Tk H H' := fun a xs h => e a _ h
theorem But.tk {l : Addr} {H H' : Hp} {u : HO} (b : But l H H') (hl : H l = some u) (d : ∀ xs, HO.tup xs ≠ u) : Tk H H' := fun a xs h => b.get hl h (d xs)
theorem But.tkl {l : Addr} {H H' : Hp} {ys : List V} (b : But l H H') (hl : H l = some (.lst ys)) : Tk H H' := b.tk hl fun _ z => nomatch z
theorem Tk.refl (H : Hp) : Tk H H := fun _ _ h => h
theorem Tk.trans {H H1 H2 : Hp} (a : Tk H H1) (b : Tk H1 H2) : Tk H H2 := fun x o h => b x o (a x o h)
theorem sqL {K : PySem.W.Frag} {H : Hp} {a : Addr} {xs : List V} (h : H a = some (.lst xs)) : SqL K H a xs := .inl (.inl h)
theorem sqT {K : PySem.W.Frag} {H : Hp} {a : Addr} {xs : List V} (h : H a = some (.tup xs)) : SqT K H a xs := .inl (.inl h)
/-! ### data: what a value stands for -/
inductive D where
  | non | bl (b : Bool) | int (i : Int) | str (s : Str) | tup (ds : List D) | lst (ds : List D)
mutual
def Rep (H : Hp) : D → V → Prop
  | .non, v => v = .non
  | .bl b, v => v = .bl b
  | .int i, v => v = .int i
  | .str s, v => v = .str s
  | .tup ds, v => ∃ a vs, v = .ref a ∧ H a = some (.tup vs) ∧ Reps H ds vs
  | .lst ds, v => ∃ a vs, v = .ref a ∧ H a = some (.lst vs) ∧ Reps H ds vs
def Reps (H : Hp) : List D → List V → Prop
  | [], vs => vs = []
  | d :: ds, vs => ∃ v r, vs = v :: r ∧ Rep H d v ∧ Reps H ds r
end
mutual
/-- tuples and flat things alone -/
def D.hard : D → Bool
  | .lst _ => false
  | .tup ds => D.hards ds
  | .non => true | .bl _ => true | .int _ => true | .str _ => true
def D.hards : List D → Bool
  | [] => true
  | d :: ds => d.hard && D.hards ds
end
mutual
def D.size : D → Nat
  | .tup ds => 1 + D.sizes ds
  | .lst ds => 1 + D.sizes ds
  | .non => 1 | .bl _ => 1 | .int _ => 1 | .str _ => 1
def D.sizes : List D → Nat
  | [] => 0
  | d :: ds => d.size + D.sizes ds
end
theorem D.size_pos (d : D) : 1 ≤ d.size := by cases d <;> simp only [D.size] <;> omega
mutual
theorem Rep.ex {H H' : Hp} (e : Ex H H') : ∀ {d : D} {v : V}, Rep H d v → Rep H' d v
  | .non, _, h => h
  | .bl _, _, h => h
  | .int _, _, h => h
  | .str _, _, h => h
  | .tup ds, _, h => by
    simp only [Rep] at h ⊢
    obtain ⟨a, vs, r, ha, hr⟩ := h
    exact ⟨a, vs, r, e _ _ ha, Reps.ex e hr⟩
  | .lst ds, _, h => by
    simp only [Rep] at h ⊢
    obtain ⟨a, vs, r, ha, hr⟩ := h
    exact ⟨a, vs, r, e _ _ ha, Reps.ex e hr⟩
theorem Reps.ex {H H' : Hp} (e : Ex H H') : ∀ {ds : List D} {vs : List V}, Reps H ds vs → Reps H' ds vs
  | [], _, h => h
  | d :: ds, _, h => by
    simp only [Reps] at h ⊢
    obtain ⟨v, r, x, h1, h2⟩ := h
    exact ⟨v, r, x, Rep.ex e h1, Reps.ex e h2⟩
end
mutual
theorem Rep.tk {H H' : Hp} (e : Tk H H') : ∀ {d : D} {v : V}, d.hard = true → Rep H d v → Rep H' d v
  | .non, _, _, h => h
  | .bl _, _, _, h => h
  | .int _, _, _, h => h
  | .str _, _, _, h => h
  | .lst _, _, z, _ => by simp [D.hard] at z
  | .tup ds, _, z, h => by
    simp only [D.hard] at z
    simp only [Rep] at h ⊢
    obtain ⟨a, vs, r, ha, hr⟩ := h
    exact ⟨a, vs, r, e _ _ ha, Reps.tk e z hr⟩
theorem Reps.tk {H H' : Hp} (e : Tk H H') : ∀ {ds : List D} {vs : List V}, D.hards ds = true → Reps H ds vs → Reps H' ds vs
  | [], _, _, h => h
  | d :: ds, _, z, h => by
    simp only [D.hards, Bool.and_eq_true] at z
    simp only [Reps] at h ⊢
    obtain ⟨v, r, x, h1, h2⟩ := h
    exact ⟨v, r, x, Rep.tk e z.1 h1, Reps.tk e z.2 h2⟩
end
theorem Reps.len {H : Hp} : ∀ {ds : List D} {vs : List V}, Reps H ds vs → vs.length = ds.length
  | [], _, h => by simp only [Reps] at h; rw [h]; rfl
  | d :: ds, _, h => by
    simp only [Reps] at h
    obtain ⟨v, r, x, _, h2⟩ := h
    rw [x, List.length_cons, List.length_cons, Reps.len h2]
theorem Reps.get {H : Hp} : ∀ {ds : List D} {vs : List V} {i : Nat} {v : V}, Reps H ds vs → vs[i]? = some v → ∃ d, ds[i]? = some d ∧ Rep H d v
  | [], _, i, v, h, e => by simp only [Reps] at h; rw [h] at e; simp at e
  | d :: ds, _, 0, v, h, e => by
    simp only [Reps] at h
    obtain ⟨u, r, x, h1, _⟩ := h
    rw [x] at e
    simp at e
    exact ⟨d, rfl, e ▸ h1⟩
  | d :: ds, _, i + 1, v, h, e => by
    simp only [Reps] at h
    obtain ⟨u, r, x, _, h2⟩ := h
    rw [x] at e
    obtain ⟨d', e', r'⟩ := Reps.get (i := i) h2 (by simpa using e)
    exact ⟨d', by simpa using e', r'⟩
theorem Reps.at {H : Hp} : ∀ {ds : List D} {vs : List V} {i : Nat} {d : D}, Reps H ds vs → ds[i]? = some d → ∃ v, vs[i]? = some v ∧ Rep H d v
  | [], _, i, d, h, e => by simp at e
  | d :: ds, _, 0, d', h, e => by
    simp only [Reps] at h
    obtain ⟨u, r, x, h1, _⟩ := h
    simp at e
    exact ⟨u, by rw [x]; rfl, e ▸ h1⟩
  | d :: ds, _, i + 1, d', h, e => by
    simp only [Reps] at h
    obtain ⟨u, r, x, _, h2⟩ := h
    obtain ⟨v', e', r'⟩ := Reps.at (i := i) h2 (by simpa using e)
    exact ⟨v', by rw [x]; simpa using e', r'⟩
theorem Reps.append {H : Hp} : ∀ {ds es : List D} {vs ws : List V}, Reps H ds vs → Reps H es ws → Reps H (ds ++ es) (vs ++ ws)
  | [], _, _, _, h, g => by simp only [Reps] at h; rw [h]; exact g
  | d :: ds, es, _, ws, h, g => by
    simp only [Reps] at h
    obtain ⟨v, r, x, h1, h2⟩ := h
    rw [x]
    simp only [List.cons_append, Reps]
    exact ⟨v, r ++ ws, rfl, h1, Reps.append h2 g⟩
/-! ### weaker readings -/
section
variable {X : Cx}
theorem pe_imp {e : Expr} {t t' : TE} (h : PE X e t) (w : ∀ σ H Q, t' σ H Q → t σ H Q) : PE X e t' := ⟨fun pins s σ H Q I q => h.run pins s σ H Q I (w σ H Q q)⟩
theorem pi_or {tg e : Expr} {t t' : TI} (h : PI X tg e t) (h' : PI X tg e t') : PI X tg e (fun σ H R => t σ H R ∨ t' σ H R) := ⟨fun pins s σ H R I q => by
  rcases q with q | q
  · exact h.run pins s σ H R I q
  · exact h'.run pins s σ H R I q⟩
/-- the name that stands in the i-th slot -/
def uV (i : Nat) : TE := fun σ H Q => match σ[i]? with
  | some (some v) => Q v H
  | _ => False
theorem uv (i : Nat) {x : Str} {pos : Pos} (hN : X.N[i]? = some x := by rfl) (hv : Vis X.env.scope x := by first | exact Or.inl rfl | exact Or.inr (Or.inl rfl) | exact Or.inr (Or.inr rfl))
    (hd : (x == ("__debug__" : Str)) = false := by decide) (hcd : (x == ("__classdict__" : Str)) = false := by decide) : PE X (.Name x pos) (uV i) :=
  pe_imp (pv i hN hv hd hcd) fun σ H Q h => by
    unfold uV at h
    split at h
    · exact ⟨_, by assumption, h⟩
    · exact h.elim
theorem g_var {σ : L2.St} {i : Nat} {v : V} {H : Hp} {Q : VK} (e : σ[i]? = some (some v)) (q : Q v H) : uV i σ H Q := by
  unfold uV
  rw [e]
  exact q
/-- a value's truth -/
def uTru (K : PySem.W.Frag) (x : V) (H : Hp) (Q : Bool → Hp → Prop) : Prop := match x with
  | .bl k => Q k H
  | .int i => Q (i != 0) H
  | .non => Q false H
  | .str y => y.length ≤ sizeLine ∧ Q ((y.length : Int) != 0) H
  | .ref p => ∃ k, TruV K (.ref p) H k ∧ Q k H
  | _ => False
theorem uTru_of {K : PySem.W.Frag} {x : V} {H : Hp} {Q : Bool → Hp → Prop} (h : uTru K x H Q) : ∃ k, TruV K x H k ∧ Q k H := by
  unfold uTru at h
  split at h
  · exact ⟨_, rfl, h⟩
  · exact ⟨_, rfl, h⟩
  · exact ⟨_, rfl, h⟩
  · exact ⟨_, ⟨h.1, rfl⟩, h.2⟩
  · exact h
  · exact h.elim
/-- a value as a test -/
def uT (K : PySem.W.Frag) (te : TE) : TT := fun σ H Q => te σ H fun x H1 => uTru K x H1 Q
theorem ut {e : Expr} {te : TE} (h : PE X e te) (he : ∀ whole, isTrue e X.env whole = (do let v ← whole; standAt e.pos; holding [v] (truthy v)) := by intro _; rfl) : PT X e (uT X.K te) := by
  refine ⟨fun pins s σ H Q I q => ?_⟩
  refine isTrue_plain (thn (h.run pins s σ H _ I q) fun v s1 z => ?_) (he _)
  obtain ⟨x, H1, I1, r1, q1⟩ := z
  exact tru_ok pins s1 σ H1 x v Q I1 r1 (uTru_of q1)
/-! ### operators -/
def uAdd (K : PySem.W.Frag) : R2 := fun x y H Q => match x, y with
  | .int i, .int j => Q (.int (i + j)) H
  | .str a, .str b => a.length + b.length ≤ sizeLine ∧ Q (.str (a ++ b)) H
  | .ref p, .ref q => rCat (.ref p) (.ref q) H Q ∨ rCatA K (.ref p) (.ref q) H Q
  | _, _ => False
theorem uo_add : OpR X (binaryOp .Add) (uAdd X.K) := by
  intro pins s σ H x y v u Q I rx ry h
  unfold uAdd at h
  split at h
  · exact op_add pins s σ H _ _ v u Q I rx ry ⟨_, _, rfl, rfl, h⟩
  · exact op_add_str pins s σ H _ _ v u Q I rx ry ⟨_, _, rfl, rfl, h⟩
  · rcases h with h | h
    · exact op_cat pins s σ H _ _ v u Q I rx ry h
    · exact op_catA pins s σ H _ _ v u Q I rx ry h
  · exact h.elim
/-- two ints in -/
def uI (C : Int → Int → Prop) (g : Int → Int → V) : R2 := fun x y H Q => match x, y with
  | .int i, .int j => C i j ∧ Q (g i j) H
  | _, _ => False
def uI0 (g : Int → Int → V) : R2 := fun x y H Q => match x, y with
  | .int i, .int j => Q (g i j) H
  | _, _ => False
theorem ui_of {f : Value → Value → Sem Value} {C : Int → Int → Prop} {g : Int → Int → V} (h : OpR X f (rI C g)) : OpR X f (uI C g) := by
  intro pins s σ H x y v u Q I rx ry q
  unfold uI at q
  split at q
  · exact h pins s σ H _ _ v u Q I rx ry ⟨_, _, rfl, rfl, q.1, q.2⟩
  · exact q.elim
theorem ui0_of {f : Value → Value → Sem Value} {g : Int → Int → V} (h : OpR X f (rI0 g)) : OpR X f (uI0 g) := by
  intro pins s σ H x y v u Q I rx ry q
  unfold uI0 at q
  split at q
  · exact h pins s σ H _ _ v u Q I rx ry ⟨_, _, rfl, rfl, q⟩
  · exact q.elim
abbrev uSub : R2 := uI0 fun i j => .int (i - j)
theorem uo_sub : OpR X (binaryOp .Sub) uSub := ui0_of op_sub
def CMm (i j : Int) : Prop := CMul i j ∨ CMulW i j
abbrev uMul : R2 := uI CMm fun i j => .int (i * j)
theorem uo_mul : OpR X (binaryOp .Mult) uMul := by
  refine ui_of (opI fun _ _ _ _ _ _ _ hc q => ?_)
  rcases hc with hc | hc
  · exact mul_int q hc.ok
  · exact mul_int q hc.ok
/-- // by anything but nought below 2 ^ 9000 -/
def CFd (_ j : Int) : Prop := j ≠ 0 ∧ j.natAbs.log2 < 9000
theorem op_fd : OpR X (binaryOp .FloorDiv) (rI CFd fun i j => .int (i.fdiv j)) := opI fun i j _ _ _ _ _ hc q => floordiv_int hc.1 q (.inl (PyProof.noPylong_of_log2 hc.2))
abbrev uFd : R2 := uI CFd fun i j => .int (i.fdiv j)
theorem uo_fd : OpR X (binaryOp .FloorDiv) uFd := ui_of op_fd
abbrev uMod : R2 := uI (fun _ j => j ≠ 0) fun i j => .int (i.fmod j)
theorem uo_mod : OpR X (binaryOp .Mod) uMod := ui_of op_modN
abbrev uPow : R2 := uI CPow fun i j => .int (i ^ j.toNat)
theorem uo_pow : OpR X (binaryOp .Pow) uPow := ui_of op_pow
abbrev uLt : R2 := uI0 fun i j => .bl (decide (i < j))
theorem uo_lt : OpR X (compareOp .Lt) uLt := ui0_of op_lt
abbrev uGt : R2 := uI0 fun i j => .bl (decide (j < i))
theorem uo_gt : OpR X (compareOp .Gt) uGt := ui0_of op_gt
abbrev uGe : R2 := uI0 fun i j => .bl (decide (j ≤ i))
theorem uo_ge : OpR X (compareOp .GtE) uGe := ui0_of op_ge
def uNeg : V → Hp → VK → Prop := fun x H Q => match x with
  | .int i => Q (.int (-i)) H
  | _ => False
/-- x is None, x is not None (y is the None) -/
def uIsN : R2 := fun x y H Q => y = .non ∧ Q (.bl (decide (x = .non))) H
def uNotN : R2 := fun x y H Q => y = .non ∧ Q (.bl (!decide (x = .non))) H
/-! ### len, subscripts -/
def LenR (K : PySem.W.Frag) (H : Hp) (p : Addr) (n : Nat) : Prop := (∃ ys, (SqL K H p ys ∨ SqT K H p ys) ∧ n = ys.length) ∨ ∃ kvs, H p = some (.dK kvs) ∧ n = kvs.length
def uLen (K : PySem.W.Frag) : List V → Hp → VK → Prop := fun xs H Q => match xs with
  | [.str z] => z.length ≤ sizeLine ∧ Q (.int z.length) H
  | [.ref p] => ∃ n : Nat, LenR K H p n ∧ Q (.int n) H
  | _ => False
theorem uk_len : CallR X (.builtin "len") (uLen X.K) := by
  intro pins s σ H xs us Q I r h
  unfold uLen at h
  split at h
  · exact call_len_str pins s σ H _ us Q I r ⟨_, rfl, h.1, h.2⟩
  · obtain ⟨n, h, q⟩ := h
    rcases h with ⟨ys, h, e⟩ | ⟨kvs, h, e⟩
    · subst e
      exact call_len_seq pins s σ H _ us Q I r ⟨_, _, rfl, h, q⟩
    · subst e
      exact call_lenD pins s σ H _ us Q I r ⟨_, _, rfl, h, q⟩
  · exact h.elim
def uIx (K : PySem.W.Frag) : R2 := fun x y H Q => match x, y with
  | .ref p, .int i => ∃ xs v, (SqL K H p xs ∨ SqT K H p xs) ∧ atI xs i = some v ∧ Q v H
  | .str z, .int i => z.length ≤ sizeLine ∧ ∃ c, atI z.cps.toList i = some c ∧ Q (.str ⟨#[c]⟩) H
  | _, _ => False
theorem ux_seq : IxR X (uIx X.K) := by
  intro value slice pins s σ H x y v u Q I rx ry q hs
  unfold uIx at q
  split at q
  · obtain ⟨xs, w, hq, a, q⟩ := q
    refine ix_seq value slice pins s σ H _ _ v u Q I rx ry ?_ hs
    rcases hq with hq | hq
    · exact .inl ⟨_, xs, _, w, rfl, rfl, hq, a, q⟩
    · exact .inr (.inl ⟨_, xs, _, w, rfl, rfl, hq, a, q⟩)
  · obtain ⟨z, c, a, q⟩ := q
    exact ix_seq value slice pins s σ H _ _ v u Q I rx ry (.inr (.inr ⟨_, _, c, rfl, rfl, z, a, q⟩)) hs
  · exact q.elim
/-! ### what a for walks: a list or a tuple -/
def uSeq (K : PySem.W.Frag) (td : TE) : TI := fun σ H R => iList K td σ H R ∨ iTup K td σ H R ∨ iStr td σ H R
theorem ui_seq {tg e : Expr} {td : TE} (h : PE X e td) : PI X tg e (uSeq X.K td) := pi_or (pi_list h) (pi_or (pi_tup h) (pi_str h))
end
end Bk
set_option Elab.async false
set_option linter.all false
set_option maxRecDepth 100000
set_option maxHeartbeats 4000000
/-! Bk2: own errors over any built-in base, made by their own __init__. -/
namespace Bk
open PySem PySem.Spec PyProof.Rows L2
/-- what the written part says of an own error's class: newId, bmB of its built-in base -/
structure OexB (K : PySem.W.Frag) (C : Addr) (newId : String) (bmB : List Value) : Prop where
  cls : ∃ nm q N bs bm sn sub ab col dd k0 k1 k2 k3 k5, K.lookup C = some (excClassObj nm q C N bs bm true sn sub ab col dd k0 k1 k2 k3 k5 newId) ∧ ∀ Y : String, bm.contains (.type Y) = bmB.contains (.type Y)
  exC : PySem.W.subIn K (.ref C) (.type "BaseException") = some true
  tyC : PySem.W.typeIn K (.ref C) = some (.type "type")
  kC : PySem.W.keepIn K (.ref C) = true
section
variable {X : Cx} {pins : List (Addr × Obj)} {σ : L2.St} {H : Hp} {s : Shared} {a C : Addr} {B newId initId : String} {bmB : List Value}
variable {e : Expr} {es : List Expr} {ta : TA} {p1 p2 pos : Pos} {x : Str}
/-- how an own class hands out its base's __init__ -/
structure XiC (K : PySem.W.Frag) (D : Addr) (initId : String) : Prop where
  ga : PySem.W.specialIn K (.ref D) "__getattribute__" = some (some (.builtin "type.__getattribute__"))
  rd : PySem.W.readsIn K D (.type "type") = true
  at_ : PySem.W.findCls K (.ref D) (.type "type") "__init__" = some (.val (.builtin initId))
end
end Bk
set_option Elab.async false
set_option linter.all false
set_option maxRecDepth 100000
set_option maxHeartbeats 4000000
/-! Bk3: list(zip(a, b)) of two tuples or two lists. -/
namespace Bk
open PySem PySem.Spec PyProof.Rows L2
section
variable {prog : Program} {w : World} {A : Around} {E : Value → Shared → Prop} {s : Shared}
/-- k: two tuples, else two lists: an iterator over xs at place i -/
def SIt (h : Heap) (k : Bool) (it l : Addr) (i : Nat) (xs : Array Value) : Prop := match k with
  | true => h.IsTupleIter it l i ∧ h.IsTuple l xs
  | false => h.IsListIter it l i ∧ h.IsList l xs
theorem SIt.keep {h h' : Heap} {k : Bool} {it l : Addr} {i : Nat} {xs : Array Value} (x : SIt h k it l i xs) (ki : ∀ o, h.get? it = some o → h'.get? it = some o) (kl : ∀ o, h.get? l = some o → h'.get? l = some o) : SIt h' k it l i xs := by
  cases k with
  | true =>
    obtain ⟨⟨o, e1, e2⟩, ⟨o', f1, f2⟩⟩ := x
    exact ⟨⟨o, ki o e1, e2⟩, ⟨o', kl o' f1, f2⟩⟩
  | false =>
    obtain ⟨⟨o, e1, e2⟩, ⟨o', f1, f2⟩⟩ := x
    exact ⟨⟨o, ki o e1, e2⟩, ⟨o', kl o' f1, f2⟩⟩
theorem SIt.step {h h' : Heap} {k : Bool} {it l : Addr} {i : Nat} {xs : Array Value} (x : SIt h k it l i xs) (hn : l ≠ it) (ki : match k with | true => h'.IsTupleIter it l (i + 1) | false => h'.IsListIter it l (i + 1)) (kl : Heap.SameBut it h h') : SIt h' k it l (i + 1) xs := by
  cases k with
  | true =>
    obtain ⟨_, ⟨o', f1, f2⟩⟩ := x
    exact ⟨ki, ⟨o', kl.extBut _ _ hn f1, f2⟩⟩
  | false =>
    obtain ⟨_, ⟨o', f1, f2⟩⟩ := x
    exact ⟨ki, ⟨o', kl.extBut _ _ hn f1, f2⟩⟩
theorem ne_lo {a b lo : Nat} (g : lo < a) (h : b ≤ lo) : a ≠ b := Nat.ne_of_gt (Nat.lt_of_le_of_lt h g)
/-- the zip at z over two such iterators; the tuple that is out stands above lo -/
structure ZSt (h : Heap) (k : Bool) (lo z TI TO i1 i2 l1 l2 : Addr) (i : Nat) (xs ys : Array Value) : Prop where
  zp : (IsZip h z TI TO .none ∧ IsPair h TO .none .none) ∨ ∃ (T : Addr) (f : Bool), IsZipHeld h z TI TO T f ∧ (∃ o, h.get? T = some o) ∧ lo < T
  ti : IsPair h TI (.ref i1) (.ref i2)
  s1 : SIt h k i1 l1 i xs
  s2 : SIt h k i2 l2 i ys
/-- the addresses as hold the pairs of xs and ys, in order, as tuples; they lie above lo and rise -/
structure Prs (xs ys : Array Value) (lo : Addr) (h : Heap) (as : List Addr) : Prop where
  rise : as.Pairwise (· < ·)
  above : ∀ a ∈ as, lo < a
  pairs : ∀ (j : Nat) (a : Addr), as[j]? = some a → ∃ x y, xs[j]? = some x ∧ ys[j]? = some y ∧ IsPair h a x y
theorem Prs.low {xs ys : Array Value} {lo lo' : Addr} {h : Heap} {as : List Addr} (g : Prs xs ys lo h as) (hl : lo' ≤ lo) : Prs xs ys lo' h as := ⟨g.rise, fun a ha => Nat.lt_of_le_of_lt hl (g.above a ha), g.pairs⟩
section
variable {R : Result → Shared → Prop} {k : Bool} {xs ys : Array Value}
theorem ZSt.keep {h h' : Heap} {lo z TI TO i1 i2 l1 l2 : Addr} {i : Nat} (x : ZSt h k lo z TI TO i1 i2 l1 l2 i xs ys) (S : Addr) (hk : ∀ b o, b ≠ S → h.get? b = some o → h'.get? b = some o) (n : S ≠ z ∧ S ≠ TI ∧ S ≠ TO ∧ S ≠ i1 ∧ S ≠ i2 ∧ S ≠ l1 ∧ S ≠ l2) (hS : S ≤ lo) : ZSt h' k lo z TI TO i1 i2 l1 l2 i xs ys := by
  obtain ⟨n1, n2, n3, n4, n5, n6, n7⟩ := n
  obtain ⟨zp, ti, s1, s2⟩ := x
  refine ⟨?_, hk _ _ n2.symm ti, s1.keep (fun o e => hk _ _ n4.symm e) (fun o e => hk _ _ n6.symm e), s2.keep (fun o e => hk _ _ n5.symm e) fun o e => hk _ _ n7.symm e⟩
  rcases zp with ⟨a, b⟩ | ⟨T, f, a, ⟨o, b⟩, c⟩
  · exact .inl ⟨hk _ _ n1.symm a, hk _ _ n3.symm b⟩
  · exact .inr ⟨T, f, hk _ _ n1.symm a, ⟨o, hk _ _ (ne_lo c hS) b⟩, c⟩
end
end
/-! ### over the layer -/
/-- at ts stand the pairs of xs and ys -/
def Prz (H : Hp) (ts : List Addr) (xs ys : List V) : Prop := ts.length = xs.length ∧ ∀ (j : Nat) (t : Addr), ts[j]? = some t → ∃ x y, xs[j]? = some x ∧ ys[j]? = some y ∧ H t = some (.tup [x, y])
/-- list(zip(a, b)) -/
def uLZ (K : PySem.W.Frag) (ta : TA) : TE := fun σ H Q => ta σ H fun vs H1 => ∃ a b xs ys, vs = [.ref a, .ref b] ∧ xs.length = ys.length ∧ ((SqT K H1 a xs ∧ SqT K H1 b ys) ∨ (SqL K H1 a xs ∧ SqL K H1 b ys)) ∧
  ∀ (H' : Hp) (p : Addr) (ts : List Addr), Ex H1 H' → H1 p = none → (∀ t ∈ ts, H1 t = none) → p ∉ ts → H' p = some (.lst (ts.map V.ref)) → Prz H' ts xs ys → Q (.ref p) H'
end Bk
set_option Elab.async false
set_option linter.all false
set_option maxRecDepth 100000
set_option maxHeartbeats 4000000
/-! Bk4: calls of defs, of built-ins by values; the turns of a reading. -/
namespace Bk
open PySem PySem.Spec PyProof.Rows L2
section
variable {X : Cx}
/-! ### calls of defs -/
theorem passAt0 {σ : L2.St} : PassesAt (L2.CX X.prog X.w) X σ (fun _ _ _ => False) := fun _ _ _ _ _ _ h => by
  obtain ⟨_, _, _, _, _, _, _, _, _, _, _, _, z⟩ := h
  exact z.elim
def uCall (sp : Sp) (dvs : List V) (E : L2.St → XK) (t : TA) : TE := fun σ H Q => t σ H fun vs H1 => sp (vs ++ dvs) H1 Q (E σ)
theorem run_fnD {CX : CXT} {k : Nat} {f : Addr} {fd : FuncData} {ps : List Str} {sp : Sp} {ds : List Value} {dvs : List V} {E : XK} {pins : List (Addr × Obj)} {σ : L2.St} {H : Hp} {s : Shared} {Q : VK} {us : List Value} {vs : List V}
    (F : FnOk X.prog X.w X.K X.mg X.base CX k f fd ps sp) (hr : Room k X.A) (hb : Binds X.K fd ps ds) (hd : Vals dvs ds) (hx : PassesAt CX X σ E) (I : Inv X pins σ H s) (r : Vals vs us) (h : sp (vs ++ dvs) H Q E) :
    wpAny (model X.prog X.w) X.A (call (.ref f) us) (EP X pins σ Q) X.xe s := by
  have r2 : Vals (vs ++ dvs) (us ++ ds) := r.append hd
  have hl : (us ++ ds).length = ps.length := by rw [← r2.length]; exact F.len _ _ _ _ h
  refine wpAny_call (codeAny_mono (F.run X.A X.stack s H ⟨us, []⟩ (us ++ ds) (vs ++ dvs) Q E hr I.env0 (hb s us I.kIn hl) r2 h) fun r s' hq => ?_)
  cases r with
  | error e => exact hx pins H s e s' I hq
  | ok fl =>
    cases fl with
    | ret u => exact I.after hq
    | next => exact False.elim hq
    | brk => exact False.elim hq
    | cont => exact False.elim hq
variable {CX : CXT} {k : Nat} {f : Addr} {fd : FuncData} {ps : List Str} {sp : Sp} {ds : List Value} {dvs : List V} {E : L2.St → XK} {x : Str} {p pos : Pos} {e : Expr} {es : List Expr} {t : TA}
theorem pe_callD (F : FnOk X.prog X.w X.K X.mg X.base CX k f fd ps sp) (hr : Room k X.A) (hg : Gl X x) (hm : X.mg x = some (.ref f)) (hk : PySem.W.keepIn X.K (.ref f) = true) (hb : Binds X.K fd ps ds) (hd : Vals dvs ds) (hx : ∀ σ, PassesAt CX X σ (E σ))
    (ha : PA X (e :: es) t) (hdb : (x == ("__debug__" : Str)) = false := by decide) (he : starEach (e :: es) X.env = (false, eval e X.env) :: starEach es X.env := by rfl) (hpl : (backTo pos (starEach es X.env)).any (·.1) = false := by rfl) :
    PE X (.Call (.Name x p) (e :: es) [] pos) (uCall sp dvs E t) := by
  refine ⟨fun pins s σ H Q I h => ?_⟩
  refine wpAny_Call_Name_kw (ld_glob I hg hm ?_ hdb)
  refine PySem.W.callWith_K (h₀ := X.base) I.ok.mod.kin hk (thn (ha.run pos pins s σ H _ I h) fun us s1 z => ?_) he hpl
  obtain ⟨vs, H1, I1, r, q⟩ := z
  exact ⟨I1.kIn, run_fnD F hr hb hd (hx σ) I1 r q⟩
/-! ### calls of built-ins by values -/
def uAbs : List V → Hp → VK → Prop := fun xs H Q => match xs with
  | [.int i] => Q (.int (i.natAbs : Nat)) H
  | _ => False
def uMax2 : List V → Hp → VK → Prop := fun xs H Q => match xs with
  | [.int i, .int j] => Q (.int (max i j)) H
  | _ => False
def uMin2 : List V → Hp → VK → Prop := fun xs H Q => match xs with
  | [.int i, .int j] => Q (.int (min i j)) H
  | _ => False
def b2z (b : Bool) : Int := if b then 1 else 0
def uInt : List V → Hp → VK → Prop := fun xs H Q => match xs with
  | [.int i] => Q (.int i) H
  | [.bl k] => Q (.int (b2z k)) H
  | _ => False
theorem uk_int : CallR X (.type "int") uInt := by
  intro pins s σ H xs us Q I r h
  unfold uInt at h
  split at h
  · exact call_int1 pins s σ H _ us Q I r (.inl ⟨_, rfl, h⟩)
  · exact call_int1 pins s σ H _ us Q I r (.inr ⟨_, rfl, h⟩)
  · exact h.elim
/-! ### isinstance by what the value is -/
/-- the kinds of values that we meet, as built-in types -/
inductive Ty : PySem.W.Frag → Hp → V → String → Prop where
  | non {K : PySem.W.Frag} {H : Hp} : Ty K H .non "NoneType"
  | bl {K : PySem.W.Frag} {H : Hp} (b : Bool) : Ty K H (.bl b) "bool"
  | int {K : PySem.W.Frag} {H : Hp} (i : Int) : Ty K H (.int i) "int"
  | str {K : PySem.W.Frag} {H : Hp} (z : Str) : Ty K H (.str z) "str"
  | lst {K : PySem.W.Frag} {H : Hp} {a : Addr} {xs : List V} (e : H a = some (.lst xs)) : Ty K H (.ref a) "list"
  | tup {K : PySem.W.Frag} {H : Hp} {a : Addr} {xs : List V} (e : H a = some (.tup xs)) : Ty K H (.ref a) "tuple"
theorem Ty.wide {K : PySem.W.Frag} {H : Hp} {v : V} {t : String} (h : Ty K H v t) : TyX K H v (.type t) := by
  cases h with
  | non => exact .base .non
  | bl b => exact .base (.bl b)
  | int i => exact .base (.int i)
  | str z => exact .base (.str z)
  | lst e => exact .base (.lst e)
  | tup e => exact .base (.tup e)
end
end Bk
set_option Elab.async false
set_option linter.all false
set_option maxRecDepth 100000
set_option maxHeartbeats 4000000
/-! Bk5: the turns of a reading, one lemma a word. -/
namespace Bk
open PySem PySem.Spec PyProof.Rows L2
section
variable {D : Ends} {σ : L2.St} {H : Hp} {Q : VK} {K : PySem.W.Frag} {te ta tb tx : TE} {t u : TS} {c d : TT} {g : TG} {tr : TA} {v : V} {i j : Int} {n m : Nat} {r : R2} {gg : Int → Int → V} {C : Int → Int → Prop} {q : Bool → Hp → Prop} {b : Bool}
/-! statements -/
theorem g_seq (h : t { D with nx := u D } σ H) : tSeq t u D σ H := h
theorem g_asg (h : te σ H fun x H1 => g x σ H1 D.nx) : tAsg te g D σ H := h
theorem g_ret (h : te σ H D.rt) : tRet te D σ H := h
theorem g_retN (h : D.rt .non H) : tRetN D σ H := h
theorem g_drop (h : te σ H fun _ H1 => D.nx σ H1) : tDrop te D σ H := h
theorem g_ifs (h : c σ H fun b H1 => if b = true then t D σ H1 else u D σ H1) : tIfS c t u D σ H := h
theorem g_next (h : D.nx σ H) : tNext D σ H := h
theorem g_par {tA : TA} (h : tA σ H fun vs H1 => ∃ v w, vs = [v, w] ∧ D.nx ((σ.set n (some v)).set m (some w)) H1) : tPar n m tA D σ H := h
theorem g_pair {x y : V} {P : V → V → Prop} (h : P x y) : ∃ v w, [x, y] = [v, w] ∧ P v w := ⟨x, y, rfl, h⟩
theorem g_name {P : L2.St → Hp → Prop} (h : P (σ.set n (some v)) H) : gName n v σ H P := h
theorem g_sub {to ti : TE} {ts : TSet} {P : L2.St → Hp → Prop} (h : to σ H fun o H1 => ti σ H1 fun i H2 => ts o i v H2 fun H3 => P σ H3) : gSub to ti ts v σ H P := h
theorem g_setL {p : Addr} {xs : List V} {P : Hp → Prop} {k : Nat} (hp : H p = some (.lst xs)) (hk : ixN xs.length i = some k) (h : P (upd H p (.lst (xs.set k v)))) : rSetL (.ref p) (.int i) v H P := ⟨p, xs, i, k, rfl, rfl, hp, hk, h⟩
theorem g_tup2 {p : Addr} {x y : V} {t1 t2 : TG} {P : L2.St → Hp → Prop} (hp : H p = some (.tup [x, y])) (h : t1 x σ H fun σ1 H1 => t2 y σ1 H1 P) : gTup K 2 (gCons t1 (gCons t2 gNil)) (.ref p) σ H P := by
  refine ⟨p, [x, y], rfl, sqT hp, rfl, x, [y], rfl, ?_⟩
  have e : (fun σ' H' => gCons t2 gNil [y] σ' H' P) = fun σ1 H1 => t2 y σ1 H1 P := by
    funext σ1 H1
    apply propext
    constructor
    · rintro ⟨_, _, q, h⟩
      cases q
      have e2 : (fun σ' H' => gNil [] σ' H' P) = P := by
        funext σ2 H2
        exact propext ⟨fun z => z.2, fun z => ⟨rfl, z⟩⟩
      rw [e2] at h
      exact h
    · intro h
      refine ⟨y, [], rfl, ?_⟩
      have e2 : (fun σ' H' => gNil [] σ' H' P) = P := by
        funext σ2 H2
        exact propext ⟨fun z => z.2, fun z => ⟨rfl, z⟩⟩
      rw [e2]
      exact h
  rw [e]
  exact h
/-! expressions -/
theorem g_c (h : Q v H) : tC v σ H Q := h
theorem g_op (h : ta σ H fun x H1 => tb σ H1 fun y H2 => r x y H2 Q) : tOp r ta tb σ H Q := h
theorem g_un {f : V → Hp → VK → Prop} (h : ta σ H fun x H1 => f x H1 Q) : tUn f ta σ H Q := h
theorem g_cons {P : List V → Hp → Prop} (h : ta σ H fun x H1 => tr σ H1 fun xs H2 => P (x :: xs) H2) : tCons ta tr σ H P := h
theorem g_nil {P : List V → Hp → Prop} (h : P [] H) : tNil σ H P := h
theorem g_cb {f : List V → Hp → VK → Prop} (h : tr σ H fun vs H1 => f vs H1 Q) : tCB f tr σ H Q := h
theorem g_call {sp : Sp} {dvs : List V} {E : L2.St → XK} (h : tr σ H fun vs H1 => sp (vs ++ dvs) H1 Q (E σ)) : uCall sp dvs E tr σ H Q := h
theorem g_if (h : c σ H fun b H1 => if b = true then ta σ H1 Q else tb σ H1 Q) : tIf c ta tb σ H Q := h
theorem g_iT {A B : Prop} (h : A) : if true = true then A else B := by rw [if_pos rfl]; exact h
theorem g_iF {A B : Prop} (h : B) : if false = true then A else B := by rw [if_neg Bool.false_ne_true]; exact h
theorem g_iNT {A B : Prop} (h : B) : if (!true) = true then A else B := by rw [if_neg (by decide)]; exact h
theorem g_iNF {A B : Prop} (h : A) : if (!false) = true then A else B := by rw [if_pos (by decide)]; exact h
theorem g_isNn (h : Q (.bl true) H) : uIsN .non .non H Q := ⟨rfl, by rw [decide_eq_true rfl]; exact h⟩
theorem g_isNr {a : Addr} (h : Q (.bl false) H) : uIsN (.ref a) .non H Q := ⟨rfl, by rw [decide_eq_false (fun z => nomatch z)]; exact h⟩
theorem g_isNi (h : Q (.bl false) H) : uIsN (.int i) .non H Q := ⟨rfl, by rw [decide_eq_false (fun z => nomatch z)]; exact h⟩
theorem g_notNn (h : Q (.bl false) H) : uNotN .non .non H Q := ⟨rfl, by rw [decide_eq_true rfl]; exact h⟩
theorem g_notNr {a : Addr} (h : Q (.bl true) H) : uNotN (.ref a) .non H Q := ⟨rfl, by rw [decide_eq_false (fun z => nomatch z)]; exact h⟩
theorem g_notNi (h : Q (.bl true) H) : uNotN (.int i) .non H Q := ⟨rfl, by rw [decide_eq_false (fun z => nomatch z)]; exact h⟩
theorem g_notV (h : ta σ H fun x H1 => ∃ c, x = .bl c ∧ Q (.bl (!c)) H1) : tNotV ta σ H Q := h
theorem g_not (h : c σ H fun b H1 => q (!b) H1) : tNot c σ H q := h
theorem g_and (h : c σ H fun b H1 => if b = true then d σ H1 q else q false H1) : tAnd c d σ H q := h
theorem g_or (h : c σ H fun b H1 => if b = true then q true H1 else d σ H1 q) : tOr c d σ H q := h
theorem g_uT (h : te σ H fun x H1 => uTru K x H1 q) : uT K te σ H q := h
theorem g_test (h : te σ H fun x H1 => ∃ k, x = .bl k ∧ q k H1) : tTest te σ H q := h
theorem g_tB (h : te σ H fun x H1 => ∃ c, x = .bl c ∧ q c H1) : tB te σ H q := h
theorem g_bl {P : Bool → Prop} (h : P b) : ∃ k, V.bl b = .bl k ∧ P k := ⟨b, rfl, h⟩
theorem g_chain {r' : R2} (h : ta σ H fun x H1 => tb σ H1 fun y H2 => r x y H2 fun z H3 => ∃ k, z = .bl k ∧ (if k = true then tx σ H3 fun w' H4 => r' y w' H4 Q else Q (.bl false) H3)) : tChain r r' ta tb tx σ H Q := h
theorem g_andV (h : ta σ H fun x H1 => ∃ c, x = .bl c ∧ if c = true then tb σ H1 Q else Q (.bl false) H1) : tAndV ta tb σ H Q := h
theorem g_orV (h : ta σ H fun x H1 => ∃ c, x = .bl c ∧ if c = true then Q (.bl true) H1 else tb σ H1 Q) : tOrV ta tb σ H Q := h
theorem g_tbl (h : q b H) : uTru K (.bl b) H q := h
theorem g_tin (h : q (i != 0) H) : uTru K (.int i) H q := h
theorem g_addI (h : Q (.int (i + j)) H) : uAdd K (.int i) (.int j) H Q := h
theorem g_i0 (h : Q (gg i j) H) : uI0 gg (.int i) (.int j) H Q := h
theorem g_i (h : Q (gg i j) H) (hc : C i j) : uI C gg (.int i) (.int j) H Q := ⟨hc, h⟩
theorem g_neg (h : Q (.int (-i)) H) : uNeg (.int i) H Q := h
theorem g_eqI (h : Q (.bl (decide (V.int i = V.int j))) H) : rEq (.int i) (.int j) H Q := ⟨rfl, h⟩
theorem g_neI (h : Q (.bl (!decide (V.int i = V.int j))) H) : rNe (.int i) (.int j) H Q := ⟨rfl, h⟩
theorem g_eqS {x y : Str} (h : Q (.bl (decide (V.str x = V.str y))) H) : rEq (.str x) (.str y) H Q := ⟨rfl, h⟩
theorem g_neS {x y : Str} (h : Q (.bl (!decide (V.str x = V.str y))) H) : rNe (.str x) (.str y) H Q := ⟨rfl, h⟩
theorem g_neB {x y : Bool} (h : Q (.bl (!decide (V.bl x = V.bl y))) H) : rNe (.bl x) (.bl y) H Q := ⟨rfl, h⟩
theorem g_abs (h : Q (.int (i.natAbs : Nat)) H) : uAbs [.int i] H Q := h
theorem g_max (h : Q (.int (max i j)) H) : uMax2 [.int i, .int j] H Q := h
theorem g_min (h : Q (.int (min i j)) H) : uMin2 [.int i, .int j] H Q := h
theorem g_intI (h : Q (.int i) H) : uInt [.int i] H Q := h
theorem g_intB (h : Q (.int (b2z b)) H) : uInt [.bl b] H Q := h
theorem g_lenL {p : Addr} {xs : List V} (hp : H p = some (.lst xs)) (h : Q (.int (xs.length : Nat)) H) : uLen K [.ref p] H Q := ⟨xs.length, .inl ⟨xs, .inl (sqL hp), rfl⟩, h⟩
theorem g_lenT {p : Addr} {xs : List V} (hp : H p = some (.tup xs)) (h : Q (.int (xs.length : Nat)) H) : uLen K [.ref p] H Q := ⟨xs.length, .inl ⟨xs, .inr (sqT hp), rfl⟩, h⟩
theorem g_lenSq {p : Addr} {xs : List V} (hp : SqL K H p xs) (h : Q (.int (xs.length : Nat)) H) : uLen K [.ref p] H Q := ⟨xs.length, .inl ⟨xs, .inl hp, rfl⟩, h⟩
theorem g_ixL {p : Addr} {xs : List V} (hp : H p = some (.lst xs)) (e : atI xs i = some v) (h : Q v H) : uIx K (.ref p) (.int i) H Q := ⟨xs, v, .inl (sqL hp), e, h⟩
theorem g_ixT {p : Addr} {xs : List V} (hp : H p = some (.tup xs)) (e : atI xs i = some v) (h : Q v H) : uIx K (.ref p) (.int i) H Q := ⟨xs, v, .inr (sqT hp), e, h⟩
theorem g_ixSq {p : Addr} {xs : List V} (hp : SqL K H p xs) (e : atI xs i = some v) (h : Q v H) : uIx K (.ref p) (.int i) H Q := ⟨xs, v, .inl hp, e, h⟩
theorem g_tup (h : tr σ H fun xs H1 => xs.length ≤ sizeLine ∧ ∀ p, H1 p = none → Q (.ref p) (upd H1 p (.tup xs))) : tTup tr σ H Q := h
theorem g_lst (h : tr σ H fun xs H1 => xs.length ≤ sizeLine ∧ ∀ p, H1 p = none → Q (.ref p) (upd H1 p (.lst xs))) : tLst tr σ H Q := h
theorem g_new {xs : List V} {P : Prop} (h : P) (hl : Nat.ble xs.length 1000 = true := by rfl) : xs.length ≤ sizeLine ∧ P := ⟨Nat.le_of_lt (small1000 (Nat.le_of_ble_eq_true hl)), h⟩
theorem g_for {wi : TI} {tb : TS} {D : Ends} {σ : L2.St} {H : Hp} (h : wi σ H fun J H1 => ∃ W : Nat → Nat → L2.St → Hp → Prop, (∃ m, W 0 m σ H1) ∧ ∀ i m σ H, W i m σ H →
  (J.stop i H ∧ D.nx σ H) ∨ (J.go i H ∧ ∃ N : L2.St → Hp → Prop, (∀ σ' H', N σ' H' → ∃ m', m' < m ∧ W (i + 1) m' σ' H') ∧ ∀ x H', J.yld i H x H' → g x σ H' fun σ2 H2 => tb { D with nx := N, ct := N, bk := D.nx } σ2 H2)) : tFor wi g tb D σ H := h
theorem g_rng1 {R : It → Hp → Prop} (h : tr σ H fun vs H1 => ∃ j : Int, vs = [.int j] ∧ -(2 ^ 62) ≤ j ∧ j < 2 ^ 62 ∧ R (Itr 0 j.toNat) H1) : iRng1 tr σ H R := h
theorem g_rng2 {R : It → Hp → Prop} (h : tr σ H fun vs H1 => ∃ i j : Int, vs = [.int i, .int j] ∧ (-(2 ^ 62) ≤ i ∧ i < 2 ^ 62 ∧ -(2 ^ 62) ≤ j ∧ j < 2 ^ 62) ∧ R (Itr i (j - i).toNat) H1) : iRng2 tr σ H R := h
theorem g_bm0 {T : String} {f : V → List V → Hp → VK → Prop} (h : ta σ H fun x H1 => tyV K T x H1 ∧ f x [] H1 Q) : tBM0 K T f ta σ H Q := h
theorem g_bm {T : String} {f : V → List V → Hp → VK → Prop} (h : ta σ H fun x H1 => tyV K T x H1 ∧ tr σ H1 fun xs H2 => f x xs H2 Q) : tBM K T f ta tr σ H Q := h
theorem g_tyL {p : Addr} {xs : List V} {P : Prop} (hp : H p = some (.lst xs)) (h : P) : tyV K "list" (.ref p) H ∧ P := ⟨.inl ⟨rfl, xs, sqL hp⟩, h⟩
theorem g_app {p : Addr} {xs : List V} (hp : H p = some (.lst xs)) (hz : xs.length < sizeLine) (h : Q .non (upd H p (.lst (xs ++ [v])))) : rAppend (.ref p) [v] H Q := ⟨p, xs, v, rfl, rfl, hp, hz, h⟩
end
end Bk
set_option Elab.async false
set_option linter.all false
set_option maxRecDepth 100000
set_option maxHeartbeats 4000000
/-! Bk6: what all laws share: tests, boxes of draws, the law's own end. -/
namespace Bk
open PySem PySem.Spec PyProof.Rows L2
/-! ### tests -/
section
variable {A B : Prop} {i j : Int}
theorem i_d {p : Prop} [Decidable p] (h1 : p → A) (h2 : ¬ p → B) : if decide p = true then A else B := by
  by_cases h : p
  · rw [if_pos (decide_eq_true h)]; exact h1 h
  · rw [if_neg (by simp [h])]; exact h2 h
theorem i_b {b : Bool} (h1 : b = true → A) (h2 : b = false → B) : if b = true then A else B := by
  cases b with
  | true => rw [if_pos rfl]; exact h1 rfl
  | false => rw [if_neg Bool.false_ne_true]; exact h2 rfl
end
/-! ### the structure's small parts -/
theorem exm_self {K : PySem.W.Frag} {S : Addr} (h1 : PySem.W.subIn K (.ref S) (.type "BaseException") = some true) (h2 : PySem.W.isClsIn K S = true) (h3 : PySem.W.typeIn K (.ref S) = some (.type "type")) (h4 : PySem.W.subIn K (.ref S) (.ref S) = some true) :
    PySem.W.exmOne K (.ref S) (.ref S) = some true := by
  have a : (PySem.W.subIn K (.ref S) (.type "BaseException") == some true) = true := by rw [h1] <;> rfl
  have b : ((PySem.W.clsIn K S).isSome && PySem.W.typeIn K (.ref S) == some (.type "type")) = true := by
    have z : (PySem.W.clsIn K S).isSome = true := h2
    rw [z, h3] <;> rfl
  show (if (PySem.W.subIn K (.ref S) (.type "BaseException") == some true) = true then (if ((PySem.W.clsIn K S).isSome && PySem.W.typeIn K (.ref S) == some (.type "type")) = true then PySem.W.subIn K (.ref S) (.ref S) else none) else none) = some true
  rw [if_pos a, if_pos b]
  exact h4
/-- what a law promises -/
def spLaw (K : PySem.W.Frag) : Sp := fun vs H Q _ => ∃ (a : Addr) (ns : List Int), vs = [.ref a] ∧ SqL K H a (ns.map V.int) ∧ ns.length ≤ 63 ∧ ∀ H', Q (.bl true) H'
theorem spLaw_of {K : PySem.W.Frag} {H : Hp} {a : Addr} {ns : List Int} (_ : Only H) (hS : SqL K H a (ns.map V.int)) (hl : ns.length ≤ 63) : spLaw K [.ref a] H (fun v _ => v = .bl true) fun _ _ _ => False := ⟨a, ns, rfl, hS, hl, fun _ => rfl⟩
theorem cx_false {P : Program} {w : World} {H : Hp} {s s' : Shared} {e : Value} (h : L2.CX P w [] H s (fun _ _ _ => False) e s') : False := by
  obtain ⟨_, _, _, _, _, _, _, _, _, _, _, _, z⟩ := h
  exact z
/-! ### a box of draws -/
def Box (H : Hp) (p : Addr) : Prop := ∃ a b c : Int, H p = some (.lst [.int a, .int b, .int c])
theorem Box.ex {H H' : Hp} {p : Addr} (b : Box H p) (e : Ex H H') : Box H' p := by
  obtain ⟨x, y, z, h⟩ := b
  exact ⟨x, y, z, e _ _ h⟩
theorem Box.but {H H' : Hp} {p l : Addr} (b : Box H p) (e : But l H H') (n : p ≠ l) : Box H' p := by
  obtain ⟨x, y, z, h⟩ := b
  exact ⟨x, y, z, e _ _ n h⟩
/-- take(box, m): a number from 0 to m - 1 -/
def spTake : Sp := fun vs H Q _ => ∃ (p : Addr) (m : Int), vs = [.ref p, .int m] ∧ Box H p ∧ 0 < m ∧ m.natAbs.log2 < 9000 ∧ ∀ (d : Int) (H' : Hp), 0 ≤ d → d < m → But p H H' → Box H' p → Q (.int d) H'
/-- box(script, k): a new box -/
def spBox (K : PySem.W.Frag) : Sp := fun vs H Q _ => ∃ (s : Addr) (ns : List Int) (k : Nat), vs = [.ref s, .int (k : Int)] ∧ SqL K H s (ns.map V.int) ∧ ns.length ≤ 63 ∧ ∀ (p : Addr) (H' : Hp), H p = none → Ex H H' → Box H' p → Q (.ref p) H'
theorem fmod_pos {a m : Int} (h : 0 < m) : 0 ≤ a.fmod m ∧ a.fmod m < m := by
  rw [Int.fmod_eq_emod_of_nonneg a (Int.le_of_lt h)]
  exact ⟨Int.emod_nonneg _ (Int.ne_of_gt h), Int.emod_lt_of_pos _ h⟩
theorem at_ints {ns : List Int} {i : Nat} (h : i < ns.length) : atI (ns.map V.int) (i : Int) = some (.int ns[i]) := atI_nat (by rw [List.getElem?_map, List.getElem?_eq_getElem h]; rfl)
end Bk
set_option Elab.async false
set_option linter.all false
set_option maxRecDepth 100000
set_option maxHeartbeats 4000000
/-! Bk7: sizes of numbers, the found pair's parts, values told apart. -/
namespace Bk
open PySem PySem.Spec PyProof.Rows L2
/-- within n bits -/
def Bits (n : Nat) (i : Int) : Prop := i.natAbs < 2 ^ n
instance instBits (n : Nat) (i : Int) : Decidable (Bits n i) := inferInstanceAs (Decidable (i.natAbs < 2 ^ n))
theorem Bits.le {n m : Nat} {i : Int} (h : Bits n i) (hm : n ≤ m := by decide) : Bits m i := Nat.lt_of_lt_of_le h (Nat.pow_le_pow_right (by decide) hm)
theorem Bits.of_le {n : Nat} {i j : Int} (h : Bits n j) (g : i.natAbs ≤ j.natAbs) : Bits n i := Nat.lt_of_le_of_lt g h
theorem fdiv_le {i j : Int} (h : j ≠ 0) (d : j ∣ i) : (i.fdiv j).natAbs ≤ i.natAbs := by
  rw [Int.fdiv_eq_ediv_of_dvd d]
  exact Int.natAbs_ediv_le_natAbs _ _
theorem Bits.of_fdiv {n : Nat} {i j : Int} (b : Bits n i) (h : j ≠ 0) (d : j ∣ i) : Bits n (i.fdiv j) := b.of_le (fdiv_le h d)
/-- what the two parts are divided by -/
def fpt (u l : Int) : Int := if l < 0 then 0 - (Int.gcd u l : Nat) else (Int.gcd u l : Nat)
theorem fpt_ne {u l : Int} (h : l ≠ 0) : fpt u l ≠ 0 := by
  have e : Int.gcd u l ≠ 0 := fun z => h (Int.gcd_eq_zero_iff.1 z).2
  unfold fpt
  split <;> omega
theorem fpt_l (u l : Int) : fpt u l ∣ l := by
  unfold fpt
  split
  · rw [Int.zero_sub]
    exact Int.neg_dvd.2 (Int.gcd_dvd_right u l)
  · exact Int.gcd_dvd_right u l
theorem fpt_u (u l : Int) : fpt u l ∣ u := by
  unfold fpt
  split
  · rw [Int.zero_sub]
    exact Int.neg_dvd.2 (Int.gcd_dvd_left u l)
  · exact Int.gcd_dvd_left u l
/-- u / l in lowest terms -/
def fru (u l : Int) : Int := u.fdiv (fpt u l)
def frl (u l : Int) : Int := l.fdiv (fpt u l)
theorem fru_bits {n : Nat} {u l : Int} (h : l ≠ 0) (b : Bits n u) : Bits n (fru u l) := b.of_fdiv (fpt_ne h) (fpt_u u l)
theorem frl_bits {n : Nat} {u l : Int} (h : l ≠ 0) (b : Bits n l) : Bits n (frl u l) := b.of_fdiv (fpt_ne h) (fpt_l u l)
theorem frl_pos {u l : Int} (h : l ≠ 0) : 0 < frl u l := by
  have e : frl u l * fpt u l = l := by
    unfold frl
    rw [Int.fdiv_eq_ediv_of_dvd (fpt_l u l)]
    exact Int.ediv_mul_cancel (fpt_l u l)
  have g : 0 < Int.gcd u l := Nat.pos_of_ne_zero fun z => h (Int.gcd_eq_zero_iff.1 z).2
  by_cases c : l < 0
  · have f : fpt u l = 0 - (Int.gcd u l : Nat) := if_pos c
    rw [f] at e
    by_cases k : 0 < frl u l
    · exact k
    · exfalso
      have : 0 ≤ frl u l * (0 - (Int.gcd u l : Nat)) := Int.mul_nonneg_of_nonpos_of_nonpos (by omega) (by omega)
      omega
  · have f : fpt u l = (Int.gcd u l : Nat) := if_neg c
    rw [f] at e
    by_cases k : 0 < frl u l
    · exact k
    · exfalso
      have : frl u l * (Int.gcd u l : Nat) ≤ 0 := Int.mul_nonpos_of_nonpos_of_nonneg (by omega) (by omega)
      omega
end Bk
set_option Elab.async false
set_option linter.all false
set_option maxRecDepth 100000
set_option maxHeartbeats 4000000
/-! Bk8: two values of one reading are alike: what the laws' comparison needs. -/
namespace Bk
open PySem PySem.Spec PyProof.Rows L2
def D.tag : D → String
  | .non => "NoneType" | .bl _ => "bool" | .int _ => "int" | .str _ => "str" | .tup _ => "tuple" | .lst _ => "list"
theorem Rep.ty {K : PySem.W.Frag} {H : Hp} {d : D} {v : V} (h : Rep H d v) : Ty K H v d.tag := by
  cases d <;> simp only [Rep] at h
  · subst h; exact .non
  · subst h; exact .bl _
  · subst h; exact .int _
  · subst h; exact .str _
  · obtain ⟨a, vs, rfl, e, _⟩ := h; exact .tup e
  · obtain ⟨a, vs, rfl, e, _⟩ := h; exact .lst e
section
variable {K : PySem.W.Frag} {H H0 H1 H2 : Hp} {Q : VK} {d : D} {v w : V}
theorem g_neBB {b : Bool} (h : Q (.bl false) H) : rNe (.bl b) (.bl b) H Q := ⟨rfl, by rw [decide_eq_true rfl]; exact h⟩
end
section
variable {K : PySem.W.Frag} {H H0 H1 H2 : Hp} {Q : VK} {d : D} {v w : V}
theorem g_lz {ta : TA} {σ : L2.St} (h : ta σ H fun vs H1 => ∃ a b xs ys, vs = [.ref a, .ref b] ∧ xs.length = ys.length ∧ ((SqT K H1 a xs ∧ SqT K H1 b ys) ∨ (SqL K H1 a xs ∧ SqL K H1 b ys)) ∧
  ∀ (H' : Hp) (p : Addr) (ts : List Addr), Ex H1 H' → H1 p = none → (∀ t ∈ ts, H1 t = none) → p ∉ ts → H' p = some (.lst (ts.map V.ref)) → Prz H' ts xs ys → Q (.ref p) H') : uLZ K ta σ H Q := h
end
/-- a pair of two of one reading -/
def Pr (H0 H1 : Hp) (d : D) (t : V) : Prop := ∃ a v w, t = .ref a ∧ H1 a = some (.tup [v, w]) ∧ Rep H0 d v ∧ Rep H0 d w
/-- a pile of such, of a size in all -/
inductive PrS (H0 H1 : Hp) : Nat → List V → Prop where
  | nil : PrS H0 H1 0 []
  | snoc {n : Nat} {ts : List V} {d : D} {t : V} (h : PrS H0 H1 n ts) (r : Pr H0 H1 d t) : PrS H0 H1 (n + d.size) (ts ++ [t])
theorem PrS.len {H0 H1 : Hp} {n : Nat} {ts : List V} (h : PrS H0 H1 n ts) : ts.length ≤ n := by
  induction h with
  | nil => exact Nat.le_refl _
  | @snoc n ts d t h r ih =>
    have := d.size_pos
    rw [List.length_append, List.length_singleton]
    omega
theorem PrS.tk {H0 H1 H2 : Hp} {n : Nat} {ts : List V} (e : Tk H1 H2) (h : PrS H0 H1 n ts) : PrS H0 H2 n ts := by
  induction h with
  | nil => exact .nil
  | snoc h r ih =>
    obtain ⟨a, v, w, rfl, ha, rv, rw'⟩ := r
    exact .snoc ih ⟨a, v, w, rfl, e _ _ ha, rv, rw'⟩
theorem PrS.ext {H0 H1 : Hp} : ∀ {ds : List D} {xs ys : List V} {tl : List Addr} {n : Nat} {ts : List V}, Reps H0 ds xs → Reps H0 ds ys → Prz H1 tl xs ys → PrS H0 H1 n ts → PrS H0 H1 (n + D.sizes ds) (ts ++ tl.map V.ref)
  | [], xs, ys, tl, n, ts, hx, hy, hp, h => by
    simp only [Reps] at hx hy
    subst hx
    have e : tl = [] := List.eq_nil_of_length_eq_zero hp.1
    subst e
    simpa [D.sizes] using h
  | d :: ds, xs, ys, tl, n, ts, hx, hy, hp, h => by
    simp only [Reps] at hx hy
    obtain ⟨x, xr, rfl, rx, hx⟩ := hx
    obtain ⟨y, yr, rfl, ry, hy⟩ := hy
    cases tl with
    | nil => cases hp.1
    | cons t tl =>
      obtain ⟨x', y', ex, ey, ht⟩ := hp.2 0 t rfl
      cases ex
      cases ey
      have hp' : Prz H1 tl xr yr := ⟨Nat.succ.inj hp.1, fun j u hu => by
        obtain ⟨a, b, q⟩ := hp.2 (j + 1) u hu
        exact ⟨a, b, q⟩⟩
      have z := PrS.ext hx hy hp' (h.snoc ⟨t, x, y, rfl, ht, rx, ry⟩)
      have e1 : n + D.sizes (d :: ds) = n + d.size + D.sizes ds := by simp only [D.sizes]; omega
      have e2 : ts ++ (t :: tl).map V.ref = ts ++ [V.ref t] ++ tl.map V.ref := by simp
      rw [e1, e2]
      exact z
/-! ### isinstance of a caught error -/
theorem kit_sub {K : PySem.W.Frag} {C : Addr} {T : String} {b : Bool} (h : PySem.W.subIn K (.ref C) (.type T) = some b) (hm : PySem.W.kitMeta T = true := by decide +kernel) : PySem.W.kitOne K (.ref C) (.type T) = some b := by
  unfold PySem.W.kitOne PySem.W.kitCls
  show (if PySem.W.kitMeta T = true then PySem.W.subIn K (.ref C) (.type T) else none) = some b
  rw [if_pos hm]
  exact h
theorem kit_own {K : PySem.W.Frag} {C D : Addr} {b : Bool} (h : PySem.W.subIn K (.ref C) (.ref D) = some b) (hs : PySem.W.subIn K (.ref C) (.ref C) = some true) (hi : PySem.W.isClsIn K D = true) (ht : PySem.W.typeIn K (.ref D) = some (.type "type")) : PySem.W.kitOne K (.ref C) (.ref D) = some b := by
  unfold PySem.W.kitOne
  by_cases c : (Value.ref C == Value.ref D) = true
  · have e : Value.ref C = Value.ref D := beq_iff_eq.mp c
    rw [e] at h
    rw [if_pos c]
    cases e
    rw [h] at hs
    exact hs.symm
  · rw [if_neg c]
    have z : ((PySem.W.clsIn K D).isSome && PySem.W.typeIn K (.ref D) == some (.type "type")) = true := by
      have z1 : (PySem.W.clsIn K D).isSome = true := hi
      rw [z1, ht] <;> rfl
    show (if ((PySem.W.clsIn K D).isSome && PySem.W.typeIn K (.ref D) == some (.type "type")) = true then PySem.W.subIn K (.ref C) (.ref D) else none) = some b
    rw [if_pos z]
    exact h
/-! ### lowest terms, as the laws find them -/
theorem Rep.two {H : Hp} {a : Addr} {x y : V} {d e : D} (h : H a = some (.tup [x, y])) (r : Rep H d x) (s : Rep H e y) : Rep H (.tup [d, e]) (.ref a) := by
  simp only [Rep, Reps]
  exact ⟨a, _, rfl, h, x, _, rfl, r, y, _, rfl, s, rfl⟩
theorem Rep.three {H : Hp} {a : Addr} {x y z : V} {d e f : D} (h : H a = some (.tup [x, y, z])) (r : Rep H d x) (s : Rep H e y) (t : Rep H f z) : Rep H (.tup [d, e, f]) (.ref a) := by
  simp only [Rep, Reps]
  exact ⟨a, _, rfl, h, x, _, rfl, r, y, _, rfl, s, z, _, rfl, t, rfl⟩
theorem Rep.i {H : Hp} (n : Int) : Rep H (.int n) (.int n) := by simp only [Rep]
theorem Rep.s {H : Hp} (n : Str) : Rep H (.str n) (.str n) := by simp only [Rep]
theorem Rep.b {H : Hp} (n : Bool) : Rep H (.bl n) (.bl n) := by simp only [Rep]
theorem Rep.n {H : Hp} : Rep H .non .non := by simp only [Rep]
/-- a fraction of the laws, as it stands -/
def Fr (H : Hp) (p : Addr) (a b : Int) : Prop := H p = some (.tup [.int a, .int b]) ∧ Bits 300 a ∧ Bits 300 b ∧ 0 < b
/-- such a one, as a value -/
def Good (H : Hp) (v : V) : Prop := ∃ (p : Addr) (a b : Int), v = .ref p ∧ Fr H p a b
theorem Good.ex {H H' : Hp} {v : V} (e : Ex H H') (g : Good H v) : Good H' v := by
  obtain ⟨p, a, b, rfl, h, x⟩ := g
  exact ⟨p, a, b, rfl, e _ _ h, x⟩
theorem Good.tk {H H' : Hp} {v : V} (e : Tk H H') (g : Good H v) : Good H' v := by
  obtain ⟨p, a, b, rfl, h, x⟩ := g
  exact ⟨p, a, b, rfl, e _ _ h, x⟩
theorem Good.fr {H : Hp} {p : Addr} {u l : Int} (h : H p = some (.tup [.int (fru u l), .int (frl u l)])) (hl : l ≠ 0) (bu : Bits 300 u) (bl : Bits 300 l) : Good H (.ref p) := ⟨p, _, _, rfl, h, fru_bits hl bu, frl_bits hl bl, frl_pos hl⟩
section
variable {K : PySem.W.Frag} {H : Hp} {Q : VK} {σ : L2.St}
theorem g_sl {r : V → Option Int → Option Int → Hp → VK → Prop} {te : TE} {tl th : TO} (h : te σ H fun x H1 => tl σ H1 fun l H2 => th σ H2 fun u H3 => r x l u H3 Q) : tSl r te tl th σ H Q := h
theorem g_noP {P : Option Int → Hp → Prop} (h : P none H) : tNoPart σ H P := h
theorem g_catL {a b : Addr} {xs ys : List V} (ha : H a = some (.lst xs)) (hb : H b = some (.lst ys)) (hl : xs.length + ys.length ≤ 1000000) (h : ∀ p, H p = none → Q (.ref p) (upd H p (.lst (xs ++ ys)))) : uAdd K (.ref a) (.ref b) H Q :=
  .inl ⟨a, b, xs, ys, rfl, rfl, ha, hb, Nat.le_trans hl (by decide), h⟩
theorem g_part {te : TE} {P : Option Int → Hp → Prop} (h : te σ H fun x H1 => ∃ i, x = .int i ∧ P (some i) H1) : tPart te σ H P := h
theorem g_exI {i : Int} {P : Int → Prop} (h : P i) : ∃ j, V.int i = .int j ∧ P j := ⟨i, rfl, h⟩
end
theorem g_zipA {K : PySem.W.Frag} {ta : TA} {σ : L2.St} {H : Hp} {R : It → Hp → Prop} (h : ta σ H fun vs H1 => ∃ a b xs ys, vs = [.ref a, .ref b] ∧ ((SqL K H1 a xs ∧ SqL K H1 b ys ∧ R (Itz K a b) H1) ∨ (SqT K H1 a xs ∧ SqT K H1 b ys ∧ R (RZ.ItzT K a b) H1))) : RZ.iZipA K ta σ H R := h
theorem cutV_mem {xs : List V} {lo hi : Option Int} {v : V} (h : v ∈ cutV xs lo hi) : v ∈ xs := List.mem_of_mem_drop (List.mem_of_mem_take h)
end Bk
set_option Elab.async false
set_option linter.all false
set_option maxRecDepth 100000
set_option maxHeartbeats 4000000
/-! Bk9: enumerate over a tuple. -/
namespace Bk
open PySem PySem.Spec PyProof.Rows L2
open AutoSeq1 (wpAny_loadPart')
def tupO (dct : Option Addr) (xs : Array Value) (n : Nat) (sl : Array (Option Value)) : Obj := { cls := .type "tuple", dict := dct, data := .seq xs n, slots := sl }
def tuiO (l : Addr) : Obj := { cls := .type "tuple_iterator", data := .fields #[.ref l, .int 0 0] }
def enuO (i : Addr) : Obj := { cls := .type "enumerate", data := .fields #[.none, .bool false, .ref i, rawInt 0, .none, .none] }
theorem meets_enumT (l : Addr) (xs : Array Value) (n : Nat) (dct : Option Addr) (sl : Array (Option Value)) :
    Meets (Builtin.«enumerate.__new__» ⟨[.type "enumerate", .ref l], []⟩) (fun _ R s => s.heap.get? l = some (tupO dct xs n sl) ∧ R (.ok (.ret (.ref (s.heap.push (tuiO l)).objs.size))) { s with heap := (s.heap.push (tuiO l)).push (enuO s.heap.objs.size) }) :=
  .of_wp fun prog w A R s z => by
    obtain ⟨hp, ge, dr, tk, os⟩ := s
    obtain ⟨hl, h⟩ := z
    have s0 := sub_enumerate
    unfold tupO at hl
    have hT : Heap.IsTuple (Shared.heap ⟨hp, ge, dr, tk, os⟩) l xs := ⟨_, hl, rfl, n, rfl⟩
    wp_walk using (wpAny_loadPart' hl)
    (refine wpAny_stack_any fun st => wpAny_pure ?_); split
    · rename_i c _ _ _ _ _
      cases (c == Value.type "enumerate") <;> (wp_walk using (wpAny_loadPart' hl), (wpAny_pyIter_tuple hT)) <;> exact ⟨_, rfl, h⟩
    · wp_walk using (wpAny_loadPart' hl), (wpAny_pyIter_tuple hT)
      exact ⟨_, rfl, h⟩
section
variable {prog : Program} {w : World} {A : Around} {E : Value → Shared → Prop} {s : Shared}
theorem call_enumT {l : Addr} {xs : Array Value} {Q : Value → Shared → Prop} (hT : s.heap.IsTuple l xs)
    (h : ∀ g, IsEnum g (s.heap.objs.size + 1) s.heap.objs.size 0 .none → g.IsTupleIter s.heap.objs.size l 0 → (∀ c o, s.heap.get? c = some o → g.get? c = some o) → Q (.ref (s.heap.objs.size + 1)) { s with heap := g }) :
    wpAny (model prog w) A (call (.type "enumerate") [.ref l]) Q E s := by
  obtain ⟨⟨c0, dc, da, sl⟩, hl, e1, n, e2⟩ := hT
  cases (show c0 = .type "tuple" from e1)
  cases (show da = .seq xs n from e2)
  refine callType_new F.called_enumerate (by decide) (F.typeCall_enumerate_1 _) (F.newCall_enumerate_1 _) (fun x => F.args_object_init_2 x _) F.entry_enumerate_new (meets_enumT l xs n dc sl) ⟨hl, ?_⟩
  have z1 : (s.heap.push (tuiO l)).objs.size = s.heap.objs.size + 1 := Heap.size_push ..
  have g2 : ((s.heap.push (tuiO l)).push (enuO s.heap.objs.size)).get? (s.heap.push (tuiO l)).objs.size = some (enuO s.heap.objs.size) := Heap.get?_push_size _ rfl
  have g1 : ((s.heap.push (tuiO l)).push (enuO s.heap.objs.size)).get? s.heap.objs.size = some (tuiO l) := Heap.get?_push_of_some _ (Heap.get?_push_size _ rfl)
  rw [z1] at g2
  show _ ∧ _
  rw [z1]
  exact ⟨⟨_, g2, rfl⟩, h _ g2 ⟨_, g1, rfl, rfl⟩ fun c o x => Heap.get?_push_of_some _ (Heap.get?_push_of_some _ x)⟩
theorem enumT_end {e it l : Addr} {i : Nat} {xs : Array Value} {old : Value} {Q : Option Value → Shared → Prop} (hh : A.handled = none) (he : IsEnum s.heap e it i old) (hit : s.heap.IsTupleIter it l i) (hT : s.heap.IsTuple l xs) (hx : xs[i]? = none)
    (hQ : ∀ g, Heap.ExtBut it s.heap g → Q none { s with heap := g }) : wpAny (model prog w) A (pyNext (.ref e)) Q E s := by
  have ty : s.TypeIs (.ref e) "enumerate" := ⟨_, he, rfl⟩
  unfold pyNext
  refine wpAny_bind (wpAny_attempt (wpAny_callSpecial?_slot (name := Str.ofString "__next__") ty F.slot_enumerate_next (wpAny_call_entry F.slot_enumerate_next ty F.entry_enumerate_next ?_ (F.args_enumerate_next_1 _))))
  show wpAny _ _ (field (.ref e) 2 >>= fun _ => _) _ _ s
  refine wpAny_bind (wpAny_field he rfl (x := .ref it) rfl (wpAny_bind (wpAny_nextOf_tuple_end (by exact hh) hit hT hx fun g z eb ⟨o, ho, hc⟩ => ?_)))
  exact wpAny_bind (wpAny_isInstance (T := "StopIteration") (b := true) ⟨o, ho, hc⟩ isSubtype_stop (wpAny_pure (hQ _ eb)))
end
/-- the turns of enumerate over the tuple at a -/
def ItE (K : PySem.W.Frag) (a : Addr) : It :=
  ⟨fun i H => ∃ (xs : List V) (x : V), SqT K H a xs ∧ xs[i]? = some x,
    fun i H v H' => ∃ (T : Addr) (x : V), v = .ref T ∧ H T = none ∧ H' = upd H T (.tup [.int (i : Nat), x]) ∧ ∀ xs, SqT K H a xs → xs[i]? = some x,
    fun i H => ∃ xs : List V, SqT K H a xs ∧ xs.length ≤ i⟩
theorem turn_enumT {P : Program} {w : World} {K : PySem.W.Frag} {elts : List Expr} {kk : Nat} {tpos : Pos} (a e it : Addr) (nt : a ≠ it) (ea : e ≠ a) :
    Turn P w K (.Tuple elts kk tpos) (ItE K a) [e, it] e (fun i h => (∃ old, IsEnum h e it ((i : Nat) : Int) old) ∧ h.IsTupleIter it a i ∧ e ≠ it) where
  mem := by simp
  obj := fun i h st b hb => by
    obtain ⟨⟨old, h1⟩, ⟨o, h2, _, h3⟩, _⟩ := st
    rcases (show b = e ∨ b = it by simpa using hb) with rfl | rfl
    · exact ⟨_, h1, fun v q => nomatch q⟩
    · exact ⟨o, h2, fun v q => by rw [h3] at q; cases q⟩
  keep := fun i h h' st k => ⟨st.1.elim fun old z => ⟨old, k e (by simp) _ z⟩, st.2.1.at fun o q => k it (by simp) o q, st.2.2⟩
  item := by
    intro X eP ew eK hc i pins s σ H E I hf st hg
    subst eP ew eK
    obtain ⟨⟨old, he⟩, hit, hne⟩ := st
    obtain ⟨xs, x, hq, hx⟩ := hg
    obtain ⟨its, rv, p, _⟩ := I.tuple hq
    obtain ⟨u, hu, ru⟩ := rv.get hx
    have le := Heap.lt_size he
    have li : it < s.heap.objs.size := hit.elim fun _ q => Heap.lt_size q.1
    have hlt : i < its.toArray.size := by
      rw [List.size_toArray]
      exact (List.getElem?_eq_some_iff.1 hu).1
    refine wpAny_pyNext_enum_itemD (Draws.tuple (A := X.A.in1) (show X.A.in1.handled = none from I.ok.hd hc) it a nt its.toArray) he ⟨hit, p⟩ hlt hne (by simpa using ⟨hne, ea⟩) fun y g tk py ho hst hT hsz hk => ?_
    have ey : y = u := by
      have z : its.toArray[i]? = some u := by simpa using hu
      exact Option.some.inj (py.symm.trans z)
    subst ey
    refine ⟨_, rfl, wpAny_letOwnedTupleGo_enum (s := { s with heap := g, toks := tk + 1 }) ho fun g2 h2 sb => ?_⟩
    have hT2 : g2.get? s.heap.objs.size = some { cls := .type "tuple", data := .seq #[.int i tk, y] } := (sb.2 _ (Nat.ne_of_gt le)).trans hT
    have new : ObjOk X.prog X.w (upd H s.heap.objs.size (.tup [.int (i : Nat), x])) g2 s.heap.objs.size (.tup [.int (i : Nat), x]) := ⟨(show 2 ≤ sizeLine by decide), [.int i tk, y], .cons ⟨_, rfl⟩ (.cons ru .nil), ⟨_, hT2, rfl, _, rfl⟩⟩
    have I1 : Inv X pins σ (upd H s.heap.objs.size (.tup [.int (i : Nat), x])) { s with heap := g2, toks := tk + 1 } := I.turnedNew (ch := [e, it]) (fun b o nb q => (sb.2 b (fun z => nb (by simp [z]))).trans (hk b o (fun z => nb (by simp [z])) (fun z => nb (by simp [z])) q)) hf (Nat.le_refl _) new
    refine ⟨.ref s.heap.objs.size, _, I1, rfl, ⟨_, x, rfl, I.hok.fresh (Nat.le_refl _), rfl, fun ys hy => by rw [I.tuple_inj hy hq]; exact hx⟩, ⟨⟨y, ?_⟩, hst.1.at fun o q => (sb.2 it (Ne.symm hne)).trans q, hne⟩, fun b hb => ?_⟩
    · have z : ((i + 1 : Nat) : Int) = (i : Int) + 1 := Int.natCast_succ i
      rw [z]
      exact h2
    · have lb : b < s.heap.objs.size := by
        rcases (show b = e ∨ b = it by simpa using hb) with rfl | rfl
        · exact le
        · exact li
      rw [upd_ne (Nat.ne_of_lt lb)]
      exact (hf b hb).1
  done := by
    intro X eP ew eK hc i pins s σ H E I hf st hg
    subst eP ew eK
    obtain ⟨⟨old, he⟩, hit, hne⟩ := st
    obtain ⟨xs, hq, hx⟩ := hg
    obtain ⟨its, rv, p, _⟩ := I.tuple hq
    obtain ⟨f0, f1, f2, f3, f4, f5⟩ := hf it (by simp)
    have hl := rv.length
    have i0 : i = its.toArray.size ∨ its.toArray.size < i := by
      rw [List.size_toArray]
      omega
    exact enumT_end (I.ok.hd hc) he hit p (by simp; omega) fun g eb => ⟨rfl, I.turned (t' := s.toks) (fun b o hb q => eb b o hb q) f0 f1 f3 f4 f5⟩
  self := fun A i s Q E st h => let ⟨⟨_, he⟩, _⟩ := st; wpAny_pyIter_enum he h
end Bk
set_option Elab.async false
set_option linter.all false
set_option maxRecDepth 100000
set_option maxHeartbeats 4000000
/-! Bk10: walks over enumerate; in, slices, tuple(..), join, all, dicts by readings that compute. -/
namespace Bk
open PySem PySem.Spec PyProof.Rows L2
def iEnumT (K : PySem.W.Frag) (ta : TA) : TI := fun σ H R => ta σ H fun vs H1 => ∃ a xs, vs = [.ref a] ∧ SqT K H1 a xs ∧ R (ItE K a) H1
section
variable {X : Cx}
theorem pi_enumT {e : Expr} {ta : TA} {p pos tpos : Pos} {elts : List Expr} {kk : Nat} (hg : Gl X "enumerate") (hm : X.mg "enumerate" = none) (ha : PA X [e] ta) (hs : starEach [e] X.env = [(false, eval e X.env)] := by rfl) : PI X (.Tuple elts kk tpos) (.Call (.Name "enumerate" p) [e] [] pos) (iEnumT X.K ta) := by
  refine ⟨fun pins s σ H R I h => ?_⟩
  refine Call_ (ld_blt I hg hm PyProof.Rows.boot_enumerate (PyProof.Rows.callWith_type1 (thn (ha.run pos pins s σ H _ I h) fun us s1 ⟨vs, H1, I1, r1, a, xs, ex, hq, q⟩ => ?_) hs rfl))
  cases ex
  cases r1 with
  | cons r rr =>
    cases rr
    cases r
    obtain ⟨its, rv, p', _⟩ := I1.tuple hq
    obtain ⟨o, ho, _⟩ := id p'
    have la := Heap.lt_size ho
    refine call_enumT (show s1.heap.IsTuple a its.toArray from p') fun g he hit hk => wpAny_pyIter_enum he ?_
    have I2 : Inv X pins σ H1 { s1 with heap := g } := I1.kept (t' := s1.toks) hk
    refine ⟨s1.heap.objs.size + 1, [s1.heap.objs.size + 1, s1.heap.objs.size], _, _, H1, rfl, I2, turn_enumT a (s1.heap.objs.size + 1) s1.heap.objs.size (Nat.ne_of_lt la) (Nat.ne_of_gt (Nat.lt_succ_of_lt la)), ⟨⟨.none, he⟩, hit, Nat.succ_ne_self _⟩, fun b hb => ?_, q⟩
    have lb : s1.heap.objs.size ≤ b := by
      rcases (show b = s1.heap.objs.size + 1 ∨ b = s1.heap.objs.size by simpa using hb) with z | z
      · exact z ▸ Nat.le_succ _
      · exact z ▸ Nat.le_refl _
    exact I1.fpOk lb (I1.hok.fresh lb)
def uEnum (K : PySem.W.Frag) (ta : TA) : TI := fun σ H R => iEnum K ta σ H R ∨ iEnumT K ta σ H R
theorem ui_enum {e : Expr} {ta : TA} {p pos tpos : Pos} {elts : List Expr} {kk : Nat} (hg : Gl X "enumerate") (hm : X.mg "enumerate" = none) (ha : PA X [e] ta) (hs : starEach [e] X.env = [(false, eval e X.env)] := by rfl) : PI X (.Tuple elts kk tpos) (.Call (.Name "enumerate" p) [e] [] pos) (uEnum X.K ta) :=
  pi_or (pi_enum hg hm ha hs) (pi_enumT hg hm ha hs)
end
section
variable {X : Cx}
/-- a slice of a text, a list, a tuple -/
def uSl (K : PySem.W.Frag) : V → Option Int → Option Int → Hp → VK → Prop := fun x lo hi H Q => match x with
  | .str z => z.length ≤ sizeLine ∧ Q (.str (cutS z lo hi)) H
  | .ref a => rSlL K (.ref a) lo hi H Q ∨ rSlA K (.ref a) lo hi H Q
  | _ => False
theorem us_sl : SlR X (uSl X.K) := by
  intro pins s σ H x v vl vu lo hi sl Q I rx hs pl pu h
  unfold uSl at h
  split at h
  · exact sl_str pins s σ H _ v vl vu lo hi sl Q I rx hs pl pu ⟨_, rfl, h⟩
  · exact (sl_list.or sl_tupA) pins s σ H _ v vl vu lo hi sl Q I rx hs pl pu h
  · exact h.elim
end
section
variable {K : PySem.W.Frag} {H : Hp} {Q : VK} {σ : L2.St} {neg : Bool}
theorem g_lcU {wi : TI} {g : TG} {tt : TT} {te : TE} {vs : List Nat} (h : wi σ H fun J H1 => ∀ D, H1 D = none → ∃ W : Nat → Nat → Hp → Prop, (∃ m, W 0 m (upd H1 D (.lst []))) ∧ ∀ i m H, W i m H →
    (J.stop i H ∧ Q (.ref D) H) ∨ (J.go i H ∧ ∃ Nx : Hp → Prop, (∀ H', Nx H' → ∃ m', m' < m ∧ W (i + 1) m' H') ∧ ∀ x H', J.yld i H x H' → g x (wipe σ vs) H' fun σ2 H2 => wipe σ2 vs = wipe σ vs ∧ tt σ2 H2 fun b H3 =>
      if b = true then te σ2 H3 fun y H4 => ∃ acc, H4 D = some (.lst acc) ∧ acc.length < sizeLine ∧ Nx (upd H4 D (.lst (acc ++ [y]))) else Nx H3)) : tLc wi g tt te vs σ H Q := h
theorem g_yes {q : Bool → Hp → Prop} (h : q true H) : tYes σ H q := h
theorem g_slLU {a : Addr} {xs : List V} {lo hi : Option Int} (ha : H a = some (.lst xs)) (h : ∀ p, H p = none → Q (.ref p) (upd H p (.lst (cutV xs lo hi)))) : uSl K (.ref a) lo hi H Q := .inl ⟨a, xs, rfl, sqL ha, h⟩
theorem g_seqLs {td : TE} {R : It → Hp → Prop} (h : td σ H fun x H1 => ∃ a, x = .ref a ∧ (∃ xs, SqL K H1 a xs) ∧ R (Itl K a) H1) : uSeq K td σ H R := .inl h
theorem g_seqTs {td : TE} {R : It → Hp → Prop} (h : td σ H fun x H1 => ∃ a, x = .ref a ∧ (∃ xs, SqT K H1 a xs) ∧ R (Itt K a) H1) : uSeq K td σ H R := .inr (.inl h)
theorem g_enL {ta : TA} {R : It → Hp → Prop} (h : ta σ H fun vs H1 => ∃ a xs, vs = [.ref a] ∧ SqL K H1 a xs ∧ R (Ite K a) H1) : uEnum K ta σ H R := .inl h
/-! dicts -/
section
variable {td ty tv tx : TE} {D : Ends} {p : Addr} {kvs : List (L2.Key × V)} {s : Str} {v z : V}
theorem g_dg (h : td σ H fun x H1 => ty σ H1 fun y H2 => ∃ a v, x = .ref a ∧ DGet H2 a y (some v) ∧ Q v H2) : tDGet td ty σ H Q := h
theorem g_di (h : ty σ H fun y H1 => td σ H1 fun x H2 => ∃ a o, x = .ref a ∧ DGet H2 a y o ∧ Q (.bl o.isSome) H2) : tDIn ty td σ H Q := h
theorem g_dni (h : ty σ H fun y H1 => td σ H1 fun x H2 => ∃ a o, x = .ref a ∧ DGet H2 a y o ∧ Q (.bl (!o.isSome)) H2) : tDNotIn ty td σ H Q := h
theorem g_dp (h : tv σ H fun v H1 => td σ H1 fun x H2 => ty σ H2 fun y H3 => ∃ a H4, x = .ref a ∧ DPut H3 a y v H4 ∧ D.nx σ H4) : sDPut td ty tv D σ H := h
theorem g_ds (h : td σ H fun x H1 => ∃ a, x = .ref a ∧ IsD H1 a ∧ ty σ H1 fun y H2 => tx σ H2 fun z H3 => ∃ (kvs : List (L2.Key × V)) (k : L2.Key), H3 a = some (.dK kvs) ∧ y = kV k ∧ kvs.length < sizeLine ∧
  (∀ v, valV kvs k = some v → Q v H3) ∧ (valV kvs k = none → Q z (upd H3 a (.dK (putK kvs k z))))) : tDSetd td ty tx σ H Q := h
end
end
/-! ### names and woods -/
def lettersS : Str := "abcdefghijklmnopqrstuvwxyz"
def isName (s : Str) : Bool := !decide (s = "kind") && decide (1 ≤ s.length ∧ s.length ≤ 6) && s.cps.toList.all fun c => decide (c ∈ lettersS.cps.toList)
/-- kind, its makers: name and parts -/
abbrev Mk := Str × List Str
abbrev Wd := List (Str × List Mk)
def partsD (ps : List Str) : D := .tup (ps.map D.str)
def mkD (m : Mk) : D := .tup [.str m.1, partsD m.2]
def kindD (k : Str × List Mk) : D := .tup [.str k.1, .tup (k.2.map mkD)]
def woodD (w : Wd) : D := .tup (w.map kindD)
/-! ### comprehensions that map -/
section
variable {J : It} {n : Nat} {G : Hp → Prop} {Y : Nat → Hp → V → Hp → Prop} {g : TG} {te : TE} {vs : List Nat} {σ : L2.St} {H1 : Hp} {D : Addr} {Qd : Hp → Prop}
/-- nothing but new objects; R of each item -/
theorem lc_mapE (w : Walk J n G Y) (R : Nat → Hp → V → Prop) (hn : n ≤ 16000000) (hD : H1 D = none) (hR : ∀ j H H' v, Tk H H' → R j H v → R j H' v) (hG : ∀ H, Ex H1 H → G H)
    (hs : ∀ i x H H' (P : VK) (N : Hp → Prop), i < n → Ex H1 H → Y i H x H' → (∀ y H4, Ex H H4 → R i H4 y → P y H4) → g x (wipe σ vs) H' fun σ2 H2 => wipe σ2 vs = wipe σ vs ∧ tYes σ2 H2 fun b H3 => if b = true then te σ2 H3 P else N H3)
    (hd : ∀ H' acc, Ex H1 H' → H' D = some (.lst acc) → acc.length = n → (∀ j v, acc[j]? = some v → R j H' v) → Qd H') :
    ∃ W : Nat → Nat → Hp → Prop, (∃ m, W 0 m (upd H1 D (.lst []))) ∧ ∀ i m H, W i m H →
      (J.stop i H ∧ Qd H) ∨ (J.go i H ∧ ∃ Nx : Hp → Prop, (∀ H', Nx H' → ∃ m', m' < m ∧ W (i + 1) m' H') ∧ ∀ x H', J.yld i H x H' → g x (wipe σ vs) H' fun σ2 H2 => wipe σ2 vs = wipe σ vs ∧ tYes σ2 H2 fun b H3 =>
        if b = true then te σ2 H3 fun y H4 => ∃ acc, H4 D = some (.lst acc) ∧ acc.length < sizeLine ∧ Nx (upd H4 D (.lst (acc ++ [y]))) else Nx H3) := by
  refine lc_it w (fun i H => Ex H1 H ∧ ∃ acc, H D = some (.lst acc) ∧ acc.length = i ∧ ∀ j v, acc[j]? = some v → R j H v) ⟨Ex.new hD, [], upd_same, rfl, fun j v z => by simp at z⟩ (fun i H _ p => hG H p.1) ?_ fun H p => ?_
  · rintro i x H H' hi ⟨e, acc, ha, hl, hr⟩ y
    refine hs i x H H' _ _ hi e y fun u H4 e4 r4 => ?_
    have a4 := e4 _ _ ha
    refine ⟨acc, a4, Nat.lt_of_le_of_lt (by omega : acc.length ≤ 16000000) (by decide), (e.trans e4).at_new hD, _, upd_same, by rw [List.length_append, hl]; rfl, fun j v hj => ?_⟩
    have b5 : Tk H4 (upd H4 D (.lst (acc ++ [u]))) := ((But.refl D H4).upd).tkl a4
    by_cases c : j < acc.length
    · rw [List.getElem?_append_left c] at hj
      exact hR _ _ _ _ b5 (hR _ _ _ _ e4.tk (hr j v hj))
    · rw [List.getElem?_append_right (by omega)] at hj
      have ej : j = i := by
        have := (List.getElem?_eq_some_iff.1 hj).1
        simp at this
        omega
      subst ej
      rw [hl, Nat.sub_self] at hj
      cases hj
      exact hR _ _ _ _ b5 r4
  · obtain ⟨e, acc, ha, hl, hr⟩ := p
    exact hd H acc e ha hl hr
end
end Bk
set_option Elab.async false
set_option linter.all false
set_option maxRecDepth 100000
set_option maxHeartbeats 4000000
/-! Bk11: a list's +=; equality by data; dicts of pairs; maps with draws. -/
namespace Bk
open PySem PySem.Spec PyProof.Rows L2
/-! ### kinds and makers by name -/
/-- (name, number) -/
def kvsFrom : Nat → Wd → List (L2.Key × V)
  | _, [] => []
  | n, k :: r => (.inr k.1, .int (n : Nat)) :: kvsFrom (n + 1) r
/-- makers' names, in order -/
def mkNames (w : Wd) : List Str := (w.map fun k => k.2.map Prod.fst).flatten
/-! ### the makers' table -/
/-- the number of a kind by its name -/
def kno (w : Wd) (s : Str) : Int := match valV (mergeK [] (kvsFrom 0 w)) (.inr s) with
  | some (.int i) => i
  | _ => 0
def tabFrom : Nat → Wd → List (Nat × Mk)
  | _, [] => []
  | n, k :: r => k.2.map (fun m => (n, m)) ++ tabFrom (n + 1) r
theorem tab_split : ∀ (w : Wd) (n i : Nat) (k : Str × List Mk), w[i]? = some k → tabFrom n w = tabFrom n (w.take i) ++ k.2.map (fun m => (n + i, m)) ++ tabFrom (n + i + 1) (w.drop (i + 1))
  | [], n, i, k, h => by simp at h
  | a :: w, n, 0, k, h => by
    cases h
    simp [tabFrom]
  | a :: w, n, i + 1, k, h => by
    have z := tab_split w (n + 1) i k h
    have e : n + 1 + i = n + (i + 1) := by omega
    simp only [tabFrom, List.take_succ_cons, List.drop_succ_cons, z, e, List.append_assoc]
theorem tab_mem : ∀ (w : Wd) (n i : Nat) (k : Str × List Mk) (m : Mk), w[i]? = some k → m ∈ k.2 → (n + i, m) ∈ tabFrom n w := fun w n i k m h hm => by
  rw [tab_split w n i k h]
  exact List.mem_append_left _ (List.mem_append_right _ (List.mem_map.2 ⟨m, hm, rfl⟩))
def EntryAt (w : Wd) (H : Hp) (kvs : List (L2.Key × V)) (e : Nat × Mk) : Prop := ∃ p t, valV kvs (.inr e.2.1) = some (.ref p) ∧ H p = some (.tup [.int (e.1 : Nat), .ref t]) ∧ H t = some (.tup (e.2.2.map fun s => .int (kno w s)))
def TabOk (w : Wd) (H : Hp) (kvs : List (L2.Key × V)) (L : List (Nat × Mk)) : Prop := kvs.length ≤ L.length ∧ ∀ e ∈ L, EntryAt w H kvs e
theorem TabOk.tk {w : Wd} {H H' : Hp} {kvs : List (L2.Key × V)} {L : List (Nat × Mk)} (t : Tk H H') (h : TabOk w H kvs L) : TabOk w H' kvs L := ⟨h.1, fun e he => by
  obtain ⟨p, q, a, b, c⟩ := h.2 e he
  exact ⟨p, q, a, t _ _ b, t _ _ c⟩⟩
theorem g_dnew {σ : L2.St} {H : Hp} {Q : VK} (h : ∀ p, H p = none → Q (.ref p) (upd H p (.dK []))) : tDNewK σ H Q := h
/-! ### a wood that is let by -/
structure WoodOk (w : Wd) : Prop where
  kinds : 1 ≤ w.length ∧ w.length ≤ 4
  name : ∀ k ∈ w, isName k.1 = true
  knd : (w.map Prod.fst).Nodup
  mkr : ∀ k ∈ w, ∀ m ∈ k.2, isName m.1 = true ∧ m.2.length ≤ 2 ∧ ∀ s ∈ m.2, s ∈ w.map Prod.fst
  nd : ((tabFrom 0 w).map fun e => e.2.1).Nodup
  many : (tabFrom 0 w).length ≤ 12
def KeysIn (kvs : List (L2.Key × V)) (L : List Str) : Prop := kvs.length ≤ L.length ∧ (∀ s, (valV kvs (.inr s)).isSome = true ↔ s ∈ L)
theorem KeysIn.none {kvs : List (L2.Key × V)} {L : List Str} {s : Str} (h : KeysIn kvs L) (hn : s ∉ L) : valV kvs (.inr s) = none := by
  cases e : valV kvs (.inr s) with
  | none => rfl
  | some v => exact absurd ((h.2 s).1 (by rw [e]; rfl)) hn
/-! ### maps with draws -/
theorem Box.tk {H H' : Hp} {p : Addr} (b : Box H p) (e : But p H H') : Tk H H' := by
  obtain ⟨_, _, _, h⟩ := b
  exact e.tkl h
theorem Box.ne {H : Hp} {p q : Addr} (b : Box H p) (h : H q = none) : q ≠ p := fun z => by
  obtain ⟨_, _, _, hp⟩ := b
  rw [← z, h] at hp
  cases hp
theorem Box.at_upd {H : Hp} {p q : Addr} {o : HO} (b : Box H p) (h : q ≠ p) : Box (upd H q o) p := by
  obtain ⟨x, y, z, hp⟩ := b
  exact ⟨x, y, z, by rw [upd_ne (Ne.symm h)]; exact hp⟩
theorem But.at_new {p q : Addr} {H H' : Hp} {o : HO} (e : But p H H') (h : H q = none) : But p H (L2.upd H' q o) := fun a u na hu => by
  rw [upd_ne (ne_of_none hu h)]
  exact e a u na hu
/-! ### the comparison where no list stands -/
inductive PrH (H0 H1 : Hp) : Nat → List V → Prop where
  | nil : PrH H0 H1 0 []
  | snoc {n : Nat} {ts : List V} {d : D} {t : V} (h : PrH H0 H1 n ts) (r : Pr H0 H1 d t) (k : d.hard = true) : PrH H0 H1 (n + d.size) (ts ++ [t])
theorem PrH.len {H0 H1 : Hp} {n : Nat} {ts : List V} (h : PrH H0 H1 n ts) : ts.length ≤ n := by
  induction h with
  | nil => exact Nat.le_refl _
  | @snoc n ts d t h r k ih =>
    have := d.size_pos
    rw [List.length_append, List.length_singleton]
    omega
theorem PrH.tk {H0 H1 H2 : Hp} {n : Nat} {ts : List V} (e : Tk H1 H2) (h : PrH H0 H1 n ts) : PrH H0 H2 n ts := by
  induction h with
  | nil => exact .nil
  | snoc h r k ih =>
    obtain ⟨a, v, w, rfl, ha, rv, rw'⟩ := r
    exact .snoc ih ⟨a, v, w, rfl, e _ _ ha, rv, rw'⟩ k
theorem PrH.ext {H0 H1 : Hp} : ∀ {ds : List D} {xs ys : List V} {tl : List Addr} {n : Nat} {ts : List V}, Reps H0 ds xs → Reps H0 ds ys → D.hards ds = true → Prz H1 tl xs ys → PrH H0 H1 n ts → PrH H0 H1 (n + D.sizes ds) (ts ++ tl.map V.ref)
  | [], xs, ys, tl, n, ts, hx, hy, _, hp, h => by
    simp only [Reps] at hx hy
    subst hx
    have e : tl = [] := List.eq_nil_of_length_eq_zero hp.1
    subst e
    simpa [D.sizes] using h
  | d :: ds, xs, ys, tl, n, ts, hx, hy, hh, hp, h => by
    simp only [Reps] at hx hy
    simp only [D.hards, Bool.and_eq_true] at hh
    obtain ⟨x, xr, rfl, rx, hx⟩ := hx
    obtain ⟨y, yr, rfl, ry, hy⟩ := hy
    cases tl with
    | nil => cases hp.1
    | cons t tl =>
      obtain ⟨x', y', ex, ey, ht⟩ := hp.2 0 t rfl
      cases ex
      cases ey
      have hp' : Prz H1 tl xr yr := ⟨Nat.succ.inj hp.1, fun j u hu => by
        obtain ⟨a, b, q⟩ := hp.2 (j + 1) u hu
        exact ⟨a, b, q⟩⟩
      have z := PrH.ext hx hy hh.2 hp' (h.snoc ⟨t, x, y, rfl, ht, rx, ry⟩ hh.1)
      have e1 : n + D.sizes (d :: ds) = n + d.size + D.sizes ds := by simp only [D.sizes]; omega
      have e2 : ts ++ (t :: tl).map V.ref = ts ++ [V.ref t] ++ tl.map V.ref := by simp
      rw [e1, e2]
      exact z
end Bk
set_option Elab.async false
set_option linter.all false
set_option maxRecDepth 100000
set_option maxHeartbeats 4000000
/-! Bk12: texts joined, cut; lists of texts compared. -/
namespace Bk
open PySem PySem.Spec PyProof.Rows L2
def one (c : Nat) : Str := ⟨#[c]⟩
theorem str_len (s : Str) : s.length = s.cps.toList.length := by
  show s.cps.size = _
  simp
section
variable {K : PySem.W.Frag} {H : Hp} {Q : VK} {σ : L2.St}
theorem g_tyS {P : Prop} {a : Str} (h : P) : (∃ b, V.str a = .str b) ∧ P := ⟨⟨a, rfl⟩, h⟩
/-! lists of texts compared -/
end
/-- any text of the laws -/
def TextOk (s : Str) : Prop := s.length ≤ 1000 ∧ ∀ c ∈ s.cps.toList, c < 0x110000
instance instTextOk (s : Str) : Decidable (TextOk s) := inferInstanceAs (Decidable (s.length ≤ 1000 ∧ ∀ c ∈ s.cps.toList, c < 0x110000))
end Bk
set_option Elab.async false
set_option linter.all false
set_option maxRecDepth 100000
set_option maxHeartbeats 4000000
/-! Bk13: names drawn. -/
namespace Bk
open PySem PySem.Spec PyProof.Rows L2
theorem letters_list : lettersS.cps.toList = (List.range 26).map (97 + ·) := by decide +kernel
theorem letters_mem {c : Nat} : c ∈ lettersS.cps.toList ↔ ∃ i, i < 26 ∧ c = 97 + i := by
  rw [letters_list, List.mem_map]
  constructor
  · rintro ⟨i, hi, rfl⟩
    exact ⟨i, List.mem_range.1 hi, rfl⟩
  · rintro ⟨i, hi, rfl⟩
    exact ⟨i, List.mem_range.2 hi, rfl⟩
/-- small letters alone -/
def Low (s : Str) : Prop := ∀ c ∈ s.cps.toList, c ∈ lettersS.cps.toList
theorem isName_low {s : Str} (h : isName s = true) : Low s := by
  unfold isName at h
  simp only [Bool.and_eq_true, List.all_eq_true, decide_eq_true_eq] at h
  exact h.2
theorem low_ok {s : Str} (h : Low s) : ∀ c ∈ s.cps.toList, c < 0x110000 := fun c hc => by
  obtain ⟨i, hi, rfl⟩ := letters_mem.1 (h c hc)
  omega
theorem app_list (s t : Str) : (s ++ t).cps.toList = s.cps.toList ++ t.cps.toList := by
  show (s.cps ++ t.cps).toList = _
  simp
theorem app_len (s t : Str) : (s ++ t).length = s.length + t.length := by
  rw [str_len, str_len, str_len, app_list, List.length_append]
theorem str_ext {s t : Str} (h : s.cps.toList = t.cps.toList) : s = t := by
  obtain ⟨a⟩ := s
  obtain ⟨b⟩ := t
  congr 1
  exact Array.toList_inj.1 h
/-- the same behind another first letter -/
def rot (r : List Nat) (k : Nat) : Str := ⟨((97 + k % 26) :: r).toArray⟩
section
variable {K : PySem.W.Frag} {H : Hp} {Q : VK} {σ : L2.St}
theorem g_bmS {T : String} {r : L2.St → V → List V → Hp → VK → Prop} {to : TE} {t : TA} (h : to σ H fun x H1 => tyV K T x H1 ∧ t σ H1 fun xs H2 => r σ x xs H2 Q) : tBMS K T r to t σ H Q := h
theorem g_tyStr {z : Str} {P : Prop} (h : P) : tyV K "str" (.str z) H ∧ P := ⟨rfl, h⟩
end
end Bk
set_option Elab.async false
set_option linter.all false
set_option maxRecDepth 100000
set_option maxHeartbeats 4000000
/-! Bk14: the laws' makers. -/
namespace Bk
open PySem PySem.Spec PyProof.Rows L2
def DueAt (w : Wd) (H : Hp) (e : Nat × Mk) (v : V) : Prop := ∃ p t, v = .ref p ∧ H p = some (.tup [.str e.2.1, .int (e.1 : Nat), .ref t]) ∧ H t = some (.tup (e.2.2.map fun s => .int (kno w s)))
theorem DueAt.tk {w : Wd} {H H' : Hp} {e : Nat × Mk} {v : V} (t : Tk H H') (h : DueAt w H e v) : DueAt w H' e v := by
  obtain ⟨p, q, a, b, c⟩ := h
  exact ⟨p, q, a, t _ _ b, t _ _ c⟩
/-- a list of such -/
def Dues (w : Wd) (H : Hp) (L : List (Nat × Mk)) (vs : List V) : Prop := vs.length = L.length ∧ ∀ (j : Nat) (v : V), vs[j]? = some v → ∃ e, L[j]? = some e ∧ DueAt w H e v
theorem Dues.tk {w : Wd} {H H' : Hp} {L : List (Nat × Mk)} {vs : List V} (t : Tk H H') (h : Dues w H L vs) : Dues w H' L vs := ⟨h.1, fun j v hj => by
  obtain ⟨e, a, b⟩ := h.2 j v hj
  exact ⟨e, a, b.tk t⟩⟩
/-- the first place of a kind's name -/
theorem kno_at : ∀ (w : Wd) (n i : Nat) (k : Str × List Mk) (kvs : List (L2.Key × V)), (w.map Prod.fst).Nodup → w[i]? = some k → valV (mergeK kvs (kvsFrom n w)) (.inr k.1) = some (.int ((n + i : Nat) : Int))
  | [], n, i, k, kvs, _, h => by simp at h
  | a :: w, n, 0, k, kvs, hn, h => by
    cases h
    show valV (mergeK (putK kvs (.inr a.1) (.int (n : Nat))) (kvsFrom (n + 1) w)) (.inr a.1) = _
    have h1 := (List.nodup_cons.1 hn).1
    have z : ∀ (w : Wd) (n : Nat) (kvs : List (L2.Key × V)) (s : Str), s ∉ w.map Prod.fst → valV (mergeK kvs (kvsFrom n w)) (.inr s) = valV kvs (.inr s) := by
      intro w
      induction w with
      | nil => intro n kvs s _; rfl
      | cons b w ih =>
        intro n kvs s hs
        show valV (mergeK (putK kvs (.inr b.1) (.int (n : Nat))) (kvsFrom (n + 1) w)) (.inr s) = _
        rw [List.map_cons, List.mem_cons, not_or] at hs
        rw [ih (n + 1) _ s hs.2, valV_put, if_neg fun e => hs.1 (Sum.inr.inj e)]
    rw [z w (n + 1) _ a.1 h1, valV_put, if_pos rfl]
    rfl
  | a :: w, n, i + 1, k, kvs, hn, h => by
    show valV (mergeK (putK kvs (.inr a.1) (.int (n : Nat))) (kvsFrom (n + 1) w)) (.inr k.1) = _
    rw [kno_at w (n + 1) i k _ (List.nodup_cons.1 hn).2 h]
    congr 2
    omega
theorem kno_idx {w : Wd} {i : Nat} {k : Str × List Mk} (hn : (w.map Prod.fst).Nodup) (h : w[i]? = some k) : kno w k.1 = (i : Nat) := by
  unfold kno
  rw [kno_at w 0 i k [] hn h]
  simp
theorem intsReps {H : Hp} : ∀ is : List Int, Reps H (is.map D.int) (is.map V.int)
  | [] => by simp only [List.map, Reps]
  | i :: is => by
    simp only [List.map, Reps]
    exact ⟨_, _, rfl, Rep.i i, intsReps is⟩
theorem ints_hard : ∀ is : List Int, D.hards (is.map D.int) = true
  | [] => rfl
  | i :: is => by
    show (D.hard (.int i) && D.hards (is.map D.int)) = true
    rw [ints_hard is]
    rfl
theorem Rep.ints {H : Hp} {t : Addr} {is : List Int} (h : H t = some (.tup (is.map V.int))) : Rep H (.tup (is.map D.int)) (.ref t) := by
  simp only [Rep]
  exact ⟨t, _, rfl, h, intsReps is⟩
section
variable {K : PySem.W.Frag} {H : Hp} {Q : VK} {σ : L2.St}
theorem g_tup3 {p : Addr} {x y z : V} {i j k : Nat} {P : L2.St → Hp → Prop} (hp : H p = some (.tup [x, y, z])) (h : P (((σ.set i (some x)).set j (some y)).set k (some z)) H) : gTup K 3 (gCons (gName i) (gCons (gName j) (gCons (gName k) gNil))) (.ref p) σ H P :=
  ⟨p, _, rfl, sqT hp, rfl, x, _, rfl, y, _, rfl, z, _, rfl, rfl, h⟩
end
theorem WoodOk.low {w : Wd} (h : WoodOk w) : ∀ s ∈ mkNames w, isName s = true := fun s hs => by
  unfold mkNames at hs
  obtain ⟨l, hl, hs⟩ := List.mem_flatten.1 hs
  obtain ⟨k, hk, rfl⟩ := List.mem_map.1 hl
  obtain ⟨m, hm, rfl⟩ := List.mem_map.1 hs
  exact (h.mkr k hk m hm).1
theorem WoodOk.row {w : Wd} (h : WoodOk w) : ∀ k ∈ w, k.2.length ≤ 1000 := fun k hk => by
  obtain ⟨i, hi⟩ := List.mem_iff_getElem?.1 hk
  have := h.many
  rw [tab_split w 0 i k hi, List.length_append, List.length_append, List.length_map] at this
  omega
theorem strs_hard : ∀ ss : List Str, D.hards (ss.map D.str) = true
  | [] => rfl
  | s :: ss => by
    show (D.hard (.str s) && D.hards (ss.map D.str)) = true
    rw [strs_hard ss]
    rfl
theorem mks_hard : ∀ ms : List Mk, D.hards (ms.map mkD) = true
  | [] => rfl
  | m :: ms => by
    show (D.hard (mkD m) && D.hards (ms.map mkD)) = true
    rw [mks_hard ms, Bool.and_true]
    show (D.hard (.str m.1) && (D.hards (m.2.map D.str) && true)) = true
    rw [strs_hard]
    rfl
theorem kinds_hard : ∀ w : Wd, D.hards (w.map kindD) = true
  | [] => rfl
  | k :: w => by
    show (D.hard (kindD k) && D.hards (w.map kindD)) = true
    rw [kinds_hard w, Bool.and_true]
    show (D.hard (.str k.1) && (D.hards (k.2.map mkD) && true)) = true
    rw [mks_hard]
    rfl
theorem wood_hard (w : Wd) : (woodD w).hard = true := by
  show D.hards (w.map kindD) = true
  exact kinds_hard w
/-! ### the rows of a wood that is drawn -/
structure Rows (H : Hp) (ras : List Addr) (R : List (List Mk)) : Prop where
  len : ras.length = R.length
  nd : ras.Nodup
  at_ : ∀ (q : Nat) (a : Addr) (r : List Mk), ras[q]? = some a → R[q]? = some r → ∃ us, H a = some (.lst us) ∧ Reps H (r.map mkD) us
theorem Rows.get {H : Hp} {ras : List Addr} {R : List (List Mk)} (h : Rows H ras R) {q : Nat} (hq : q < R.length) : ∃ a r us, ras[q]? = some a ∧ R[q]? = some r ∧ H a = some (.lst us) ∧ Reps H (r.map mkD) us := by
  have hq2 : q < ras.length := by rw [h.len]; exact hq
  obtain ⟨us, a, b⟩ := h.at_ q _ _ (List.getElem?_eq_getElem hq2) (List.getElem?_eq_getElem hq)
  exact ⟨_, _, us, List.getElem?_eq_getElem hq2, List.getElem?_eq_getElem hq, a, b⟩
/-- what keeps the lists at ras and all tuples -/
theorem Rows.keep {H H' : Hp} {ras : List Addr} {R : List (List Mk)} (h : Rows H ras R) (t : Tk H H') (k : ∀ a ∈ ras, ∀ us, H a = some (.lst us) → H' a = some (.lst us)) : Rows H' ras R := ⟨h.len, h.nd, fun q a r ha hr => by
  obtain ⟨us, hu, rs⟩ := h.at_ q a r ha hr
  exact ⟨us, k a (List.mem_of_getElem? ha) us hu, rs.tk t (mks_hard r)⟩⟩
end Bk
set_option Elab.async false
set_option linter.all false
set_option maxRecDepth 100000
set_option maxHeartbeats 4000000
/-! Bk15: own errors with fields over ValueError. -/
namespace Bk
open PySem PySem.Spec PyProof.Rows L2
end Bk
set_option Elab.async false
set_option linter.all false
set_option maxRecDepth 100000
set_option maxHeartbeats 4000000
/-! Bk16: what a wood is refused for. -/
namespace Bk
open PySem PySem.Spec PyProof.Rows L2
end Bk
set_option Elab.async false
set_option linter.all false
set_option maxRecDepth 100000
set_option maxHeartbeats 4000000
/-! Bk17: caught errors with fields, isinstance by a tuple of classes; texts and tuples times a number. -/
namespace Bk
open PySem PySem.Spec PyProof.Rows L2
section
variable {K : PySem.W.Frag} {H : Hp} {Q : VK} {σ : L2.St} {D a : Addr} {d : Option Addr} {b : Bool}
theorem xfC (C : ExcC K D) : XfC K D := ⟨C.hg, C.hk, C.hs, C.hd⟩
end
/-- a text, n times -/
def repS (x : Str) (n : Int) : Str := ⟨(List.replicate n.toNat x.cps.toList).flatten.toArray⟩
theorem foldl_cps (c : Array Nat) : ∀ (m : Nat) (acc : Array Nat), (List.replicate m c).foldl (· ++ ·) acc = acc ++ (List.replicate m c.toList).flatten.toArray
  | 0, acc => by simp
  | m + 1, acc => by
    rw [List.replicate_succ, List.foldl_cons, foldl_cps c m, List.replicate_succ, List.flatten_cons]
    apply Array.ext'
    simp
theorem repS_len (x : Str) (n : Int) : (repS x n).length = n.toNat * x.length := by
  show (List.replicate n.toNat x.cps.toList).flatten.toArray.size = n.toNat * x.cps.size
  simp
def rRepS : R2 := fun x y H Q => ∃ (a : Str) (n : Int), x = .str a ∧ y = .int n ∧ 0 ≤ n ∧ n ≤ 10000 ∧ a.length ≤ 100 ∧ Q (.str (repS a n)) H
section
variable {X : Cx}
theorem op_repS : OpR X (binaryOp .Mult) rRepS := by
  intro pins s σ H x y v u Q I rx ry h
  obtain ⟨a, n, rfl, rfl, h0, h1, ha, q⟩ := h
  obtain ⟨t, rfl⟩ := rx
  obtain ⟨t', rfl⟩ := ry
  have hl : a.length * n.toNat ≤ 100 * 10000 := Nat.mul_le_mul ha (by omega)
  refine PySem.P.mul_str (by rw [decide_eq_false (by omega), decide_eq_false (by omega)]; rfl) (fun h2 _ => ?_) (fun h2 _ => ?_) ?_
  · have e : (10 : Int) ^ 6 ≤ (2 ^ 63 - 1) / n := by
      refine Int.le_ediv_of_mul_le (by omega) ?_
      have : (10 : Int) ^ 6 * n ≤ 10 ^ 6 * 10000 := Int.mul_le_mul_of_nonneg_left h1 (by decide)
      omega
    omega
  · show decide (_ > _) = false
    exact decide_eq_false (Nat.not_lt.mpr (Nat.le_trans hl (by decide)))
  · by_cases c : n < 1
    · rw [if_pos c]
      have en : n = 0 := by omega
      subst en
      refine ⟨by decide, ?_⟩
      exact ⟨.str (repS a 0), H, I.tok _, ⟨_, rfl⟩, q⟩
    · rw [if_neg c]
      by_cases c2 : (n == 1 || a.length == 0) = true
      · rw [if_pos c2]
        have e : repS a n = a := by
          rcases Bool.or_eq_true_iff.mp c2 with z | z
          · have en : n = 1 := by simpa using z
            subst en
            show Str.mk _ = a
            simp
          · have ez0 : a.length = 0 := by simpa using z
            have ez : a.cps.size = 0 := ez0
            obtain ⟨⟨l⟩⟩ := a
            have : l = [] := List.eq_nil_of_length_eq_zero ez
            subst this
            show Str.mk _ = _
            simp
        rw [e] at q
        exact ⟨.str a, H, I, ⟨_, rfl⟩, q⟩
      · rw [if_neg c2]
        have e : (⟨(List.replicate n.toNat a.cps).foldl (fun x y => x ++ y) #[]⟩ : Str) = repS a n := by
          unfold repS
          rw [foldl_cps a.cps n.toNat #[]]
          simp
        rw [e]
        refine ⟨?_, ?_⟩
        · rw [repS_len]
          exact Nat.le_trans (by rw [Nat.mul_comm]; exact hl) (by decide)
        · exact ⟨.str (repS a n), H, I.tok _, ⟨_, rfl⟩, q⟩
end
section
variable {K : PySem.W.Frag} {H : Hp} {Q : VK} {σ : L2.St}
theorem g_repS {a : Str} {n : Int} (h0 : 0 ≤ n) (h1 : n ≤ 10000) (ha : a.length ≤ 100) (q : Q (.str (repS a n)) H) : rRepS (.str a) (.int n) H Q := ⟨a, n, rfl, rfl, h0, h1, ha, q⟩
end
end Bk
set_option Elab.async false
set_option linter.all false
set_option maxRecDepth 100000
set_option maxHeartbeats 4000000
/-! Bk18: woods of any kind, let by or refused. -/
namespace Bk
open PySem PySem.Spec PyProof.Rows L2
theorem TextOk.le {s : Str} (h : TextOk s) : s.length ≤ 100000 := Nat.le_trans h.1 (by decide)
theorem isName_text {s : Str} (h : isName s = true) : TextOk s := by
  have h2 := low_ok (isName_low h)
  unfold isName at h
  simp only [Bool.and_eq_true, decide_eq_true_eq] at h
  exact ⟨by omega, h2⟩
def KeysX (kvs : List (L2.Key × V)) (L : List Str) : Prop := kvs.length = L.length ∧ (∀ s, (valV kvs (.inr s)).isSome = true ↔ s ∈ L)
theorem KeysX.none {kvs : List (L2.Key × V)} {L : List Str} {s : Str} (h : KeysX kvs L) (hn : s ∉ L) : valV kvs (.inr s) = none := by
  cases e : valV kvs (.inr s) with
  | none => rfl
  | some v => exact absurd ((h.2 s).1 (by rw [e]; rfl)) hn
theorem take_at {α : Type} {l : List α} {i : Nat} {x : α} (h : l[i]? = some x) : l.take (i + 1) = l.take i ++ [x] := by
  rw [List.take_add_one, h]
  rfl
theorem i_nb {A B : Prop} {b : Bool} (h1 : b = false → A) (h2 : b = true → B) : if (!b) = true then A else B := by
  cases b with
  | false => rw [if_pos (by decide)]; exact h1 rfl
  | true => rw [if_neg (by decide)]; exact h2 rfl
end Bk
set_option Elab.async false
set_option linter.all false
set_option maxRecDepth 100000
set_option maxHeartbeats 4000000
/-! Bk19: a wood laid out as lists, by the sorts of its objects. -/
namespace Bk
open PySem PySem.Spec PyProof.Rows L2
abbrev Sorts := Addr → Nat
/-- an object of a sort: 1 a kind's row, 2 a list of makers, 3 a maker -/
def Sorted (n : Nat) (c : Sorts) (H : Hp) (k : Nat) (o : HO) : Prop :=
  (k = 1 → ∃ (s : Str) (b : Addr), o = .lst [.str s, .ref b] ∧ TextOk s ∧ c b = 2) ∧
  (k = 2 → ∃ xs : List V, o = .lst xs ∧ xs.length ≤ 12 + 5 * n ∧ ∀ x ∈ xs, ∃ b, x = .ref b ∧ c b = 3) ∧
  (k = 3 → ∃ (s : Str) (t : Addr) (ps : List Str), o = .lst [.str s, .ref t] ∧ TextOk s ∧ H t = some (.tup (ps.map V.str)) ∧ ps.length ≤ 2 + 7 * n ∧ ∀ p ∈ ps, TextOk p)
def TyH (n : Nat) (c : Sorts) (H : Hp) : Prop := ∀ a, c a ≠ 0 → c a ≤ 3 ∧ ∃ o, H a = some o ∧ Sorted n c H (c a) o
def setC (c : Sorts) (a : Addr) (k : Nat) : Sorts := fun b => if b = a then k else c b
theorem setC_same {c : Sorts} {a : Addr} {k : Nat} : setC c a k a = k := if_pos rfl
theorem setC_ne {c : Sorts} {a b : Addr} {k : Nat} (h : b ≠ a) : setC c a k b = c b := if_neg h
theorem Sorted.lst {n : Nat} {c : Sorts} {H : Hp} {k : Nat} {o : HO} (h : Sorted n c H k o) (h0 : k ≠ 0) (h3 : k ≤ 3) : ∃ xs, o = .lst xs := by
  have : k = 1 ∨ k = 2 ∨ k = 3 := by omega
  rcases this with rfl | rfl | rfl
  · obtain ⟨_, _, e, _⟩ := h.1 rfl
    exact ⟨_, e⟩
  · obtain ⟨_, e, _⟩ := h.2.1 rfl
    exact ⟨_, e⟩
  · obtain ⟨_, _, _, e, _⟩ := h.2.2 rfl
    exact ⟨_, e⟩
theorem TyH.lst {n : Nat} {c : Sorts} {H : Hp} (h : TyH n c H) {a : Addr} (ha : c a ≠ 0) : ∃ xs, H a = some (.lst xs) := by
  obtain ⟨l, o, e, s⟩ := h a ha
  obtain ⟨xs, rfl⟩ := s.lst ha l
  exact ⟨xs, e⟩
theorem TyH.c0 {n : Nat} {c : Sorts} {H : Hp} (h : TyH n c H) {a : Addr} (ha : H a = none) : c a = 0 := by
  refine Classical.byContradiction fun z => ?_
  obtain ⟨xs, e⟩ := h.lst z
  rw [ha] at e
  cases e
theorem Sorted.mono {n n' : Nat} {c c' : Sorts} {H H' : Hp} {k : Nat} {o : HO} (hn : n ≤ n') (hc : ∀ b, c b ≠ 0 → c' b = c b) (ht : Tk H H') (h : Sorted n c H k o) : Sorted n' c' H' k o := by
  refine ⟨fun e => ?_, fun e => ?_, fun e => ?_⟩
  · obtain ⟨s, b, e1, e2, e3⟩ := h.1 e
    exact ⟨s, b, e1, e2, by rw [hc b (by omega)]; exact e3⟩
  · obtain ⟨xs, e1, e2, e3⟩ := h.2.1 e
    refine ⟨xs, e1, by omega, fun x hx => ?_⟩
    obtain ⟨b, e4, e5⟩ := e3 x hx
    exact ⟨b, e4, by rw [hc b (by omega)]; exact e5⟩
  · obtain ⟨s, t, ps, e1, e2, e3, e4, e5⟩ := h.2.2 e
    exact ⟨s, t, ps, e1, e2, ht _ _ e3, by omega, e5⟩
/-- what keeps the sorted objects and all tuples -/
theorem TyH.keep {n : Nat} {c : Sorts} {H H' : Hp} (h : TyH n c H) (ht : Tk H H') (hk : ∀ a, c a ≠ 0 → H' a = H a) : TyH n c H' := fun a ha => by
  obtain ⟨l, o, e, s⟩ := h a ha
  exact ⟨l, o, (hk a ha).trans e, s.mono (Nat.le_refl _) (fun _ _ => rfl) ht⟩
theorem TyH.ex {n : Nat} {c : Sorts} {H H' : Hp} (h : TyH n c H) (e : Ex H H') : TyH n c H' := h.keep e.tk fun a ha => by
  obtain ⟨xs, q⟩ := h.lst ha
  rw [q, e _ _ q]
theorem TyH.le {n m : Nat} {c : Sorts} {H : Hp} (h : TyH n c H) (hn : n ≤ m) : TyH m c H := fun a ha => by
  obtain ⟨l, o, e, s⟩ := h a ha
  exact ⟨l, o, e, s.mono hn (fun _ _ => rfl) (Tk.refl _)⟩
/-- a sorted object changed -/
theorem TyH.set {n : Nat} {c : Sorts} {H : Hp} {a : Addr} {o : HO} (h : TyH n c H) (ha : c a ≠ 0) (ho : Sorted n c H (c a) o) : TyH n c (upd H a o) := by
  obtain ⟨xs, q⟩ := h.lst ha
  have t : Tk H (upd H a o) := ((But.refl a H).upd).tkl q
  intro b hb
  by_cases e : b = a
  · subst e
    exact ⟨(h b hb).1, o, upd_same, ho.mono (Nat.le_refl _) (fun _ _ => rfl) t⟩
  · obtain ⟨l, o', e1, s⟩ := h b hb
    exact ⟨l, o', by rw [upd_ne e]; exact e1, s.mono (Nat.le_refl _) (fun _ _ => rfl) t⟩
/-- an object that had no sort gets one -/
theorem TyH.cls {n : Nat} {c : Sorts} {H : Hp} {a : Addr} {k : Nat} {o : HO} (h : TyH n c H) (ha : c a = 0) (hk : k ≤ 3) (q : H a = some o) (ho : Sorted n c H k o) : TyH n (setC c a k) H ∧ ∀ b, c b ≠ 0 → setC c a k b = c b := by
  have hc : ∀ b, c b ≠ 0 → setC c a k b = c b := fun b hb => setC_ne fun e => hb (e ▸ ha)
  refine ⟨fun b hb => ?_, hc⟩
  by_cases e : b = a
  · subst e
    rw [setC_same]
    exact ⟨hk, o, q, ho.mono (Nat.le_refl _) hc (Tk.refl _)⟩
  · rw [setC_ne e] at hb ⊢
    obtain ⟨l, o', e1, s⟩ := h b hb
    exact ⟨l, o', e1, s.mono (Nat.le_refl _) hc (Tk.refl _)⟩
theorem TyH.but {n : Nat} {c : Sorts} {H H' : Hp} {p : Addr} (h : TyH n c H) (b : But p H H') (hp : Box H p) (c0 : c p = 0) : TyH n c H' := h.keep (hp.tk b) fun a ha => by
  obtain ⟨xs, q⟩ := h.lst ha
  have ne : a ≠ p := fun e => ha (by rw [e]; exact c0)
  rw [q, b _ _ ne q]
/-- fresh: what is sorted is new to H0 -/
def FreshC (c : Sorts) (H0 : Hp) : Prop := ∀ a, c a ≠ 0 → H0 a = none
theorem FreshC.set {c : Sorts} {H0 : Hp} {a : Addr} {k : Nat} (h : FreshC c H0) (ha : H0 a = none) : FreshC (setC c a k) H0 := fun b hb => by
  by_cases e : b = a
  · rw [e]; exact ha
  · rw [setC_ne e] at hb
    exact h b hb
/-- the rows: a list of such -/
def RowsAt (m : Nat) (c : Sorts) (xs : List V) : Prop := xs.length ≤ m ∧ ∀ x ∈ xs, ∃ b, x = .ref b ∧ c b = 1
theorem RowsAt.mono {m : Nat} {c c' : Sorts} {xs : List V} (h : RowsAt m c xs) (hc : ∀ b, c b ≠ 0 → c' b = c b) : RowsAt m c' xs := ⟨h.1, fun x hx => by
  obtain ⟨b, e, q⟩ := h.2 x hx
  exact ⟨b, e, by rw [hc b (by omega)]; exact q⟩⟩
/-! ### a list compared with the empty one -/
/-! ### the state while a wood is spoilt -/
structure SpSt (p R : Addr) (n m : Nat) (c : Sorts) (H H1 : Hp) (rows : List V) : Prop where
  bx0 : Box H p
  bt : But p H H1
  bx : Box H1 p
  at_ : H1 R = some (.lst rows)
  ty : TyH n c H1
  fr : FreshC c H
  cR : c R = 0
  hR : H R = none
  rw : RowsAt m c rows
section
variable {p R : Addr} {n m : Nat} {c : Sorts} {H H1 H2 : Hp} {rows : List V}
theorem SpSt.np (s : SpSt p R n m c H H1 rows) {a : Addr} (ha : H a = none) : a ≠ p := fun e => by
  obtain ⟨_, _, _, q⟩ := s.bx0
  rw [← e, ha] at q
  cases q
theorem SpSt.cp (s : SpSt p R n m c H H1 rows) : c p = 0 := Classical.byContradiction fun z => s.np (s.fr p z) rfl
theorem SpSt.free (s : SpSt p R n m c H H1 rows) {a : Addr} (ha : H1 a = none) : H a = none := by
  cases e : H a with
  | none => rfl
  | some o =>
    by_cases z : a = p
    · subst z
      obtain ⟨_, _, _, q⟩ := s.bx
      rw [ha] at q
      cases q
    · rw [s.bt _ _ z e] at ha
      cases ha
theorem SpSt.but (s : SpSt p R n m c H H1 rows) (b : But p H1 H2) (hb : Box H2 p) : SpSt p R n m c H H2 rows :=
  ⟨s.bx0, s.bt.trans b, hb, b _ _ (s.np s.hR) s.at_, s.ty.but b s.bx s.cp, s.fr, s.cR, s.hR, s.rw⟩
theorem SpSt.ex (s : SpSt p R n m c H H1 rows) (e : Ex H1 H2) : SpSt p R n m c H H2 rows := s.but (e.but p) (s.bx.ex e)
/-- a sorted object changed -/
theorem SpSt.set (s : SpSt p R n m c H H1 rows) {a : Addr} {o : HO} (ha : c a ≠ 0) (ho : Sorted n c H1 (c a) o) : SpSt p R n m c H (upd H1 a o) rows :=
  ⟨s.bx0, s.bt.at_new (s.fr a ha), s.bx.at_upd (s.np (s.fr a ha)), by rw [upd_ne (fun e => ha (by rw [← e]; exact s.cR))]; exact s.at_, s.ty.set ha ho, s.fr, s.cR, s.hR, s.rw⟩
/-- a new sorted object -/
theorem SpSt.cls (s : SpSt p R n m c H H1 rows) {a : Addr} {k : Nat} {o : HO} (ha : c a = 0) (hN : H a = none) (ne : R ≠ a) (hk : k ≤ 3) (q : H1 a = some o) (ho : Sorted n c H1 k o) : SpSt p R n m (setC c a k) H H1 rows ∧ ∀ b, c b ≠ 0 → setC c a k b = c b := by
  obtain ⟨h1, h2⟩ := s.ty.cls ha hk q ho
  exact ⟨⟨s.bx0, s.bt, s.bx, s.at_, h1, s.fr.set hN, by rw [setC_ne ne]; exact s.cR, s.hR, s.rw.mono h2⟩, h2⟩
theorem SpSt.le (s : SpSt p R n m c H H1 rows) {n' m' : Nat} (h1 : n ≤ n') (h2 : m ≤ m') : SpSt p R n' m' c H H1 rows :=
  ⟨s.bx0, s.bt, s.bx, s.at_, s.ty.le h1, s.fr, s.cR, s.hR, Nat.le_trans s.rw.1 h2, s.rw.2⟩
end
end Bk
set_option Elab.async false
set_option linter.all false
set_option maxRecDepth 100000
set_option maxHeartbeats 4000000
/-! Bk20: zip(a, b, strict=True), a and b lists or tuples of one length. -/
namespace Bk
open PySem PySem.Spec PyProof.Rows L2
/-! ### the turns -/
def KI (h : Heap) (k : Bool) (it l : Addr) (i : Nat) : Prop := match k with
  | true => h.IsTupleIter it l i
  | false => h.IsListIter it l i
theorem KI.get {h : Heap} {k : Bool} {it l : Addr} {i : Nat} (x : KI h k it l i) : ∃ o, h.get? it = some o ∧ ∀ v, o.data ≠ .cell v := by
  cases k with
  | true =>
    obtain ⟨o, e1, _, d1⟩ := x
    exact ⟨o, e1, fun v q => by rw [d1] at q; cases q⟩
  | false =>
    obtain ⟨o, e1, _, d1⟩ := x
    exact ⟨o, e1, fun v q => by rw [d1] at q; cases q⟩
theorem KI.at {h h' : Heap} {k : Bool} {it l : Addr} {i : Nat} (x : KI h k it l i) (f : ∀ o, h.get? it = some o → h'.get? it = some o) : KI h' k it l i := by
  cases k with
  | true => obtain ⟨o, e1, e2⟩ := x; exact ⟨o, f o e1, e2⟩
  | false => obtain ⟨o, e1, e2⟩ := x; exact ⟨o, f o e1, e2⟩
theorem SIt.ki {h : Heap} {k : Bool} {it l : Addr} {i : Nat} {xs : Array Value} (x : SIt h k it l i xs) : KI h k it l i := by
  cases k with
  | true => exact x.1
  | false => exact x.1
end Bk
set_option Elab.async false
set_option linter.all false
set_option maxRecDepth 100000
set_option maxHeartbeats 4000000
/-! Bk21: trees by rows. -/
namespace Bk
open PySem PySem.Spec PyProof.Rows L2
abbrev Tr := List (Str × List Int)
def rowD (r : Str × List Int) : D := .tup [.str r.1, .tup (r.2.map D.int)]
def treeD (t : Tr) : D := .tup (t.map rowD)
def mkOf (w : Wd) (s : Str) : Option (Nat × Mk) := (tabFrom 0 w).find? fun e => decide (e.2.1 = s)
def dueOf (w : Wd) (e : Nat × Mk) : List Int := e.2.2.map fun s => kno w s
def standsAt (ks ns due : List Int) : Bool := decide (ns.length = due.length) && ((ns.all fun n => decide (0 ≤ n ∧ n < (ks.length : Nat))) && (ns.zip due).all fun p => decide (ks[p.1.toNat]? = some p.2))
def stands (w : Wd) (ks : List Int) (r : Str × List Int) : Bool := match mkOf w r.1 with
  | none => false
  | some e => standsAt ks r.2 (dueOf w e)
def kindAt (w : Wd) (s : Str) : Int := match mkOf w s with
  | none => 0
  | some e => (e.1 : Nat)
theorem nodup_sub2 {α : Type} [DecidableEq α] : ∀ (l m : List α), l.Nodup → (∀ x ∈ l, x ∈ m) → l.length ≤ m.length
  | [], _, _, _ => Nat.zero_le _
  | x :: l, m, h, hs => by
    have hn := List.nodup_cons.1 h
    have hx := hs x List.mem_cons_self
    have z := nodup_sub2 l (m.erase x) hn.2 fun y hy => (List.mem_erase_of_ne (fun e => hn.1 (by rw [← e]; exact hy))).2 (hs y (List.mem_cons_of_mem _ hy))
    rw [List.length_erase_of_mem hx] at z
    have : 0 < m.length := List.length_pos_of_mem hx
    rw [List.length_cons]
    omega
theorem TabOk.none {w : Wd} {H : Hp} {kvs : List (L2.Key × V)} {L : List (Nat × Mk)} {s : Str} (h : TabOk w H kvs L) (hn : (L.map fun e => e.2.1).Nodup) (hs : s ∉ L.map fun e => e.2.1) : valV kvs (.inr s) = none := by
  refine Classical.byContradiction fun z => ?_
  have key : ∀ t v, valV kvs (.inr t) = some v → (Sum.inr t : L2.Key) ∈ kvs.map Prod.fst := fun t v e => by
    unfold valV at e
    rw [Option.map_eq_some_iff] at e
    obtain ⟨kv, e1, _⟩ := e
    have e2 := List.find?_some e1
    have e3 := List.mem_of_find?_eq_some e1
    exact List.mem_map.2 ⟨kv, e3, of_decide_eq_true e2⟩
  have hz : ∃ v, valV kvs (.inr s) = some v := by
    cases e : valV kvs (.inr s) with
    | none => exact absurd e z
    | some v => exact ⟨v, rfl⟩
  obtain ⟨v, hv⟩ := hz
  have a := nodup_sub2 ((s :: L.map fun e => e.2.1).map Sum.inr) (kvs.map Prod.fst) (by
    have nd : (s :: L.map fun e => e.2.1).Nodup := List.nodup_cons.2 ⟨hs, hn⟩
    exact List.Pairwise.map (R := (· ≠ ·)) (S := (· ≠ ·)) Sum.inr (fun x y hxy e => hxy (Sum.inr.inj e)) nd) fun x hx => by
      obtain ⟨t, ht, rfl⟩ := List.mem_map.1 hx
      rcases List.mem_cons.1 ht with rfl | ht
      · exact key _ _ hv
      · obtain ⟨e, he, rfl⟩ := List.mem_map.1 ht
        obtain ⟨p, t, q, _⟩ := h.2 e he
        exact key _ _ q
  have b := h.1
  simp only [List.length_map, List.length_cons] at a
  omega
theorem mkOf_some {w : Wd} {s : Str} {e : Nat × Mk} (h : mkOf w s = some e) : e ∈ tabFrom 0 w ∧ e.2.1 = s := ⟨List.mem_of_find?_eq_some h, of_decide_eq_true (List.find?_some (p := fun e : Nat × Mk => decide (e.2.1 = s)) h)⟩
theorem mkOf_none {w : Wd} {s : Str} (h : mkOf w s = none) : s ∉ (tabFrom 0 w).map fun e => e.2.1 := fun z => by
  obtain ⟨e, he, rfl⟩ := List.mem_map.1 z
  exact List.find?_eq_none.1 h e he (decide_eq_true rfl)
/-! told and due -/
/-- what both tell: a tuple of a word, or of a word and a number -/
def ToldT (H : Hp) (o : Option Nat) (p : Addr) : Prop := match o with
  | none => H p = some (.tup [.str "let by"])
  | some n => H p = some (.tup [.str "refused", .int (n : Nat)])
theorem ToldT.ex {H H' : Hp} {o : Option Nat} {p : Addr} (e : Ex H H') (h : ToldT H o p) : ToldT H' o p := by
  cases o with
  | none => exact e _ _ h
  | some n => exact e _ _ h
end Bk
set_option Elab.async false
set_option linter.all false
set_option maxRecDepth 100000
set_option maxHeartbeats 4000000
/-! Bk22: trees drawn. -/
namespace Bk
open PySem PySem.Spec PyProof.Rows L2
def goTr (w : Wd) : List Int → Tr → Bool
  | _, [] => true
  | ks, r :: t => stands w ks r && goTr w (ks ++ [kindAt w r.1]) t
def kindsT (w : Wd) (t : Tr) : List Int := t.map fun r => kindAt w r.1
theorem mkOf_mem {w : Wd} {e : Nat × Mk} (hn : ((tabFrom 0 w).map fun e => e.2.1).Nodup) (he : e ∈ tabFrom 0 w) : mkOf w e.2.1 = some e := by
  cases c : mkOf w e.2.1 with
  | none => exact absurd (List.mem_map.2 ⟨e, he, rfl⟩) (mkOf_none c)
  | some f =>
    obtain ⟨h1, h2⟩ := mkOf_some c
    obtain ⟨i, hi⟩ := List.mem_iff_getElem?.1 he
    obtain ⟨j, hj⟩ := List.mem_iff_getElem?.1 h1
    obtain ⟨i1, i2⟩ := List.getElem?_eq_some_iff.1 hi
    obtain ⟨j1, j2⟩ := List.getElem?_eq_some_iff.1 hj
    have z := List.pairwise_iff_getElem.1 hn
    by_cases e1 : i = j
    · subst e1
      rw [hi] at hj
      cases hj
      rfl
    · exfalso
      rcases Nat.lt_or_gt_of_ne e1 with l | l
      · refine z i j (by rw [List.length_map]; exact i1) (by rw [List.length_map]; exact j1) l ?_
        rw [List.getElem_map, List.getElem_map, i2, j2, h2]
      · refine z j i (by rw [List.length_map]; exact j1) (by rw [List.length_map]; exact i1) l ?_
        rw [List.getElem_map, List.getElem_map, i2, j2, h2]
theorem row_hard (r : Str × List Int) : (rowD r).hard = true := by
  show D.hards [.str r.1, .tup (r.2.map D.int)] = true
  have := ints_hard r.2
  simp only [D.hards, D.hard, this, Bool.and_self]
theorem rows_hard : ∀ t : Tr, D.hards (t.map rowD) = true
  | [] => rfl
  | r :: t => by
    show (D.hard (rowD r) && D.hards (t.map rowD)) = true
    rw [row_hard, rows_hard t]
    rfl
theorem tree_hard (t : Tr) : (treeD t).hard = true := by
  show D.hards (t.map rowD) = true
  exact rows_hard t
structure TreeSt (p R Kd Sz : Addr) (w : Wd) (H H1 : Hp) (t : Tr) (rvs : List V) (szs : List Int) : Prop where
  bx0 : Box H p
  bt : But p H H1
  bx : Box H1 p
  hR : H R = none
  hK : H Kd = none
  hS : H Sz = none
  RK : R ≠ Kd
  RS : R ≠ Sz
  KS : Kd ≠ Sz
  atR : H1 R = some (.lst rvs)
  atK : H1 Kd = some (.lst ((kindsT w t).map V.int))
  atS : H1 Sz = some (.lst (szs.map V.int))
  reps : Reps H1 (t.map rowD) rvs
  len : szs.length = t.length
  go : goTr w [] t = true
  row : ∀ r ∈ t, TextOk r.1 ∧ r.2.length ≤ 2
section
variable {p R Kd Sz : Addr} {w : Wd} {H H1 H2 : Hp} {t : Tr} {rvs : List V} {szs : List Int}
theorem TreeSt.np (s : TreeSt p R Kd Sz w H H1 t rvs szs) {a : Addr} (ha : H a = none) : a ≠ p := fun e => by
  obtain ⟨_, _, _, q⟩ := s.bx0
  rw [← e, ha] at q
  cases q
theorem TreeSt.free (s : TreeSt p R Kd Sz w H H1 t rvs szs) {a : Addr} (ha : H1 a = none) : H a = none := by
  cases e : H a with
  | none => rfl
  | some o =>
    by_cases z : a = p
    · subst z
      obtain ⟨_, _, _, q⟩ := s.bx
      rw [ha] at q
      cases q
    · rw [s.bt _ _ z e] at ha
      cases ha
theorem TreeSt.but (s : TreeSt p R Kd Sz w H H1 t rvs szs) (b : But p H1 H2) (hb : Box H2 p) : TreeSt p R Kd Sz w H H2 t rvs szs :=
  { s with bt := s.bt.trans b, bx := hb, atR := b _ _ (s.np s.hR) s.atR, atK := b _ _ (s.np s.hK) s.atK, atS := b _ _ (s.np s.hS) s.atS, reps := s.reps.tk (s.bx.tk b) (rows_hard t) }
theorem TreeSt.ex (s : TreeSt p R Kd Sz w H H1 t rvs szs) (e : Ex H1 H2) : TreeSt p R Kd Sz w H H2 t rvs szs := s.but (e.but p) (s.bx.ex e)
end
/-- a maker whose parts' kinds are there -/
def FitAt (w : Wd) (H : Hp) (ks : List Int) (x : V) : Prop := ∃ e, e ∈ tabFrom 0 w ∧ DueAt w H e x ∧ ∀ d ∈ dueOf w e, d ∈ ks
theorem FitAt.tk {w : Wd} {H H' : Hp} {ks : List Int} {x : V} (t : Tk H H') (h : FitAt w H ks x) : FitAt w H' ks x := by
  obtain ⟨e, a, b, c⟩ := h
  exact ⟨e, a, b.tk t, c⟩
/-! ### a tree spoilt -/
structure RwSt (p R : Addr) (n m : Nat) (c : Addr → Prop) (H H1 : Hp) (rows : List V) : Prop where
  bx0 : Box H p
  bt : But p H H1
  bx : Box H1 p
  at_ : H1 R = some (.lst rows)
  hR : H R = none
  cR : ¬ c R
  fr : ∀ a, c a → H a = none
  ty : ∀ a, c a → ∃ (s : Str) (t : Addr) (ns : List Int), H1 a = some (.lst [.str s, .ref t]) ∧ TextOk s ∧ H1 t = some (.tup (ns.map V.int)) ∧ ns.length ≤ n
  rw : rows.length ≤ m ∧ ∀ x ∈ rows, ∃ b, x = .ref b ∧ c b
section
variable {p R : Addr} {n m : Nat} {c : Addr → Prop} {H H1 H2 : Hp} {rows : List V}
theorem RwSt.np (s : RwSt p R n m c H H1 rows) {a : Addr} (ha : H a = none) : a ≠ p := fun e => by
  obtain ⟨_, _, _, q⟩ := s.bx0
  rw [← e, ha] at q
  cases q
theorem RwSt.free (s : RwSt p R n m c H H1 rows) {a : Addr} (ha : H1 a = none) : H a = none := by
  cases e : H a with
  | none => rfl
  | some o =>
    by_cases z : a = p
    · subst z
      obtain ⟨_, _, _, q⟩ := s.bx
      rw [ha] at q
      cases q
    · rw [s.bt _ _ z e] at ha
      cases ha
theorem RwSt.but (s : RwSt p R n m c H H1 rows) (b : But p H1 H2) (hb : Box H2 p) : RwSt p R n m c H H2 rows :=
  ⟨s.bx0, s.bt.trans b, hb, b _ _ (s.np s.hR) s.at_, s.hR, s.cR, s.fr, fun a ha => by
    obtain ⟨x, t, ns, h1, h2, h3, h4⟩ := s.ty a ha
    exact ⟨x, t, ns, b _ _ (s.np (s.fr a ha)) h1, h2, s.bx.tk b _ _ h3, h4⟩, s.rw⟩
theorem RwSt.ex (s : RwSt p R n m c H H1 rows) (e : Ex H1 H2) : RwSt p R n m c H H2 rows := s.but (e.but p) (s.bx.ex e)
theorem RwSt.le (s : RwSt p R n m c H H1 rows) {n' m' : Nat} (h1 : n ≤ n') (h2 : m ≤ m') : RwSt p R n' m' c H H1 rows :=
  ⟨s.bx0, s.bt, s.bx, s.at_, s.hR, s.cR, s.fr, fun a ha => by
    obtain ⟨x, t, ns, h3, h4, h5, h6⟩ := s.ty a ha
    exact ⟨x, t, ns, h3, h4, h5, by omega⟩, Nat.le_trans s.rw.1 h2, s.rw.2⟩
theorem RwSt.set (s : RwSt p R n m c H H1 rows) {a t : Addr} {x : Str} {ns : List Int} (ha : c a) (hx : TextOk x) (ht : H1 t = some (.tup (ns.map V.int))) (hl : ns.length ≤ n) : RwSt p R n m c H (upd H1 a (.lst [.str x, .ref t])) rows := by
  obtain ⟨x0, t0, ns0, q, _⟩ := s.ty a ha
  have k : Tk H1 (upd H1 a (.lst [.str x, .ref t])) := ((But.refl a H1).upd).tkl q
  refine ⟨s.bx0, s.bt.at_new (s.fr a ha), s.bx.at_upd (s.np (s.fr a ha)), by rw [upd_ne (fun e => s.cR (by rw [e]; exact ha))]; exact s.at_, s.hR, s.cR, s.fr, fun b hb => ?_, s.rw⟩
  by_cases e : b = a
  · subst e
    exact ⟨x, t, ns, upd_same, hx, k _ _ ht, hl⟩
  · obtain ⟨y, u, ms, h1, h2, h3, h4⟩ := s.ty b hb
    exact ⟨y, u, ms, by rw [upd_ne e]; exact h1, h2, k _ _ h3, h4⟩
end
end Bk
set_option Elab.async false
set_option linter.all false
set_option maxRecDepth 100000
set_option maxHeartbeats 4000000
/-! Bk23: woods as texts. -/
namespace Bk
open PySem PySem.Spec PyProof.Rows L2
/-! ### what a text's rows write -/
/-- the kinds as they are read: a list of tuples, a list of makers in each -/
structure KdAt (H : Hp) (Kl : Addr) (ras : List Addr) (acc : Wd) : Prop where
  kl : ∃ vs, H Kl = some (.lst vs) ∧ vs.length = acc.length ∧ ∀ (i : Nat) (k : Str × List Mk) (m : Addr), acc[i]? = some k → ras[i]? = some m → ∃ a, vs[i]? = some (.ref a) ∧ H a = some (.tup [.str k.1, .ref m])
  rows : Rows H ras (acc.map Prod.snd)
  ne : Kl ∉ ras
section
variable {H H' : Hp} {Kl : Addr} {ras : List Addr} {acc : Wd}
theorem KdAt.ex (h : KdAt H Kl ras acc) (e : Ex H H') : KdAt H' Kl ras acc := by
  obtain ⟨vs, a, b, c⟩ := h.kl
  refine ⟨⟨vs, e _ _ a, b, fun i k m hk hm => ?_⟩, h.rows.keep e.tk fun a _ us q => e _ _ q, h.ne⟩
  obtain ⟨x, d1, d2⟩ := c i k m hk hm
  exact ⟨x, d1, e _ _ d2⟩
theorem KdAt.len (h : KdAt H Kl ras acc) : ras.length = acc.length := by rw [h.rows.len, List.length_map]
theorem KdAt.kind (h : KdAt H Kl ras acc) {vs : List V} {s : Str} {M a : Addr} (hk : H Kl = some (.lst vs)) (hM : H M = some (.lst [])) (hMn : M ∉ ras) (hMK : M ≠ Kl) (ha : H a = some (.tup [.str s, .ref M])) : KdAt (upd H Kl (.lst (vs ++ [.ref a]))) Kl (ras ++ [M]) (acc ++ [(s, [])]) := by
  obtain ⟨vs', b1, b2, b3⟩ := h.kl
  rw [hk] at b1
  cases b1
  have tk : Tk H (upd H Kl (.lst (vs ++ [.ref a]))) := ((But.refl Kl H).upd).tkl hk
  have rl := h.len
  refine ⟨⟨_, upd_same, by rw [List.length_append, List.length_append, b2]; rfl, fun i k m hi hm => ?_⟩, ⟨by rw [List.length_append, List.map_append, List.length_append, List.length_map, rl]; rfl, ?_, fun q x r hx hr => ?_⟩, fun z => ?_⟩
  · by_cases c : i < acc.length
    · rw [List.getElem?_append_left c] at hi
      rw [List.getElem?_append_left (by omega)] at hm
      obtain ⟨x, d1, d2⟩ := b3 i k m hi hm
      exact ⟨x, by rw [List.getElem?_append_left (by omega)]; exact d1, tk _ _ d2⟩
    · rw [List.getElem?_append_right (by omega)] at hi
      rw [List.getElem?_append_right (by omega)] at hm
      have ei : i = acc.length := by
        have := (List.getElem?_eq_some_iff.1 hi).1
        simp at this
        omega
      subst ei
      rw [Nat.sub_self] at hi
      rw [rl, Nat.sub_self] at hm
      cases hi
      cases hm
      exact ⟨a, by rw [List.getElem?_append_right (by omega), b2, Nat.sub_self]; rfl, tk _ _ ha⟩
  · rw [List.nodup_append]
    exact ⟨h.rows.nd, by simp, fun x hx y hy => by rw [List.mem_singleton.1 hy]; exact fun e => hMn (by rw [← e]; exact hx)⟩
  · rw [List.map_append] at hr
    by_cases c : q < acc.length
    · rw [List.getElem?_append_left (by omega)] at hx
      rw [List.getElem?_append_left (by rw [List.length_map]; exact c)] at hr
      obtain ⟨us, d1, d2⟩ := h.rows.at_ q x r hx hr
      have nx : x ≠ Kl := fun e => h.ne (by rw [← e]; exact List.mem_of_getElem? hx)
      exact ⟨us, by rw [upd_ne nx]; exact d1, d2.tk tk (mks_hard r)⟩
    · rw [List.getElem?_append_right (by omega)] at hx
      rw [List.getElem?_append_right (by rw [List.length_map]; omega)] at hr
      have eq : q = acc.length := by
        have := (List.getElem?_eq_some_iff.1 hx).1
        simp at this
        omega
      subst eq
      rw [rl, Nat.sub_self] at hx
      rw [List.length_map, Nat.sub_self] at hr
      cases hx
      cases hr
      exact ⟨[], by rw [upd_ne hMK]; exact hM, by simp only [List.map, Reps]⟩
  · rcases List.mem_append.1 z with z | z
    · exact h.ne z
    · exact hMK (List.mem_singleton.1 z).symm
/-- the last kind, and its list -/
theorem KdAt.last {acc0 : Wd} {k : Str × List Mk} (h : KdAt H Kl ras (acc0 ++ [k])) : ∃ vs a M us, H Kl = some (.lst vs) ∧ vs.length = acc0.length + 1 ∧ vs[acc0.length]? = some (.ref a) ∧ H a = some (.tup [.str k.1, .ref M]) ∧ ras[acc0.length]? = some M ∧ H M = some (.lst us) ∧ Reps H (k.2.map mkD) us := by
  obtain ⟨vs, b1, b2, b3⟩ := h.kl
  have rl := h.len
  rw [List.length_append, List.length_singleton] at rl b2
  have hk : (acc0 ++ [k])[acc0.length]? = some k := by rw [List.getElem?_append_right (Nat.le_refl _), Nat.sub_self]; rfl
  have hm := List.getElem?_eq_getElem (l := ras) (i := acc0.length) (by omega)
  obtain ⟨a, c1, c2⟩ := b3 _ _ _ hk hm
  obtain ⟨us, d1, d2⟩ := h.rows.at_ acc0.length _ k.2 hm (by rw [List.getElem?_map, hk]; rfl)
  exact ⟨vs, a, _, us, b1, b2, c1, c2, hm, d1, d2⟩
end
/-- what is read, within bounds -/
structure RdB (i : Nat) (acc : Wd) : Prop where
  wide : acc.length ≤ i
  name : ∀ k ∈ acc, TextOk k.1
  row : ∀ k ∈ acc, k.2.length ≤ i
  mkr : ∀ k ∈ acc, ∀ m ∈ k.2, TextOk m.1 ∧ m.2.length ≤ 2 ∧ ∀ s ∈ m.2, TextOk s
theorem RdB.kind {i : Nat} {acc : Wd} {s : Str} (h : RdB i acc) (hs : isName s = true) : RdB (i + 1) (acc ++ [(s, [])]) := by
  refine ⟨by rw [List.length_append, List.length_singleton]; have := h.wide; omega, fun k hk => ?_, fun k hk => ?_, fun k hk m hm => ?_⟩
  · rcases List.mem_append.1 hk with hk | hk
    · exact h.name k hk
    · rw [List.mem_singleton.1 hk]; exact isName_text hs
  · rcases List.mem_append.1 hk with hk | hk
    · have := h.row k hk; omega
    · rw [List.mem_singleton.1 hk]; exact Nat.zero_le _
  · rcases List.mem_append.1 hk with hk | hk
    · exact h.mkr k hk m hm
    · rw [List.mem_singleton.1 hk] at hm; cases hm
theorem op_eqDK {X : Cx} (K : PySem.W.Frag) (hu : X.A.units + 64 < cLine) (hK : X.K = K := by rfl) : OpR X (compareOp .Eq) (rEqD K) := by
  subst hK
  exact op_eqD hu
theorem joinL_len {S : List Nat} : ∀ (ps : List (List Nat)), (TL.joinL S ps).length ≤ (ps.map (·.length + S.length)).sum
  | [] => Nat.zero_le _
  | [p] => by
    show p.length ≤ _
    simp
  | p :: q :: ps => by
    have z := joinL_len (S := S) (q :: ps)
    show (p ++ (S ++ TL.joinL S (q :: ps))).length ≤ _
    rw [List.length_append, List.length_append, List.map_cons, List.sum_cons]
    omega
theorem join_chars {y : Str} {ps : List Str} : (Txt.join y ps).cps.toList = TL.joinL (TL.tl y) (ps.map TL.tl) := by
  have e1 : ∀ s : Str, SX.S (TL.tl s) = s := fun s => by
    apply TL.ext_tl
    show (SX.S (TL.tl s)).cps.toList = s.cps.toList
    unfold SX.S
    simp [TL.tl]
  have e2 : ps = (ps.map TL.tl).map SX.S := by
    rw [List.map_map]
    conv => lhs; rw [← List.map_id ps]
    exact List.map_congr_left fun s _ => (e1 s).symm
  have e3 := SX.join_S (TL.tl y) (ps.map TL.tl)
  rw [← e2, e1 y] at e3
  rw [e3]
theorem join_len {y : Str} {ps : List Str} {b : Nat} (h : ∀ s ∈ ps, s.length ≤ b) : (Txt.join y ps).length ≤ ps.length * (b + y.length) := by
  rw [str_len, join_chars]
  refine Nat.le_trans (joinL_len _) ?_
  rw [List.map_map]
  have e : ((ps.map ((fun p : List Nat => p.length + (TL.tl y).length) ∘ TL.tl)).sum) ≤ ps.length * (b + y.length) := by
    induction ps with
    | nil => exact Nat.zero_le _
    | cons p ps ih =>
      have a := h p List.mem_cons_self
      have z := ih fun s hs => h s (List.mem_cons_of_mem _ hs)
      rw [List.map_cons, List.sum_cons, List.length_cons, Nat.succ_mul]
      have e1 : ((fun p : List Nat => p.length + (TL.tl y).length) ∘ TL.tl) p = p.length + y.length := by
        show p.cps.toList.length + y.cps.toList.length = _
        rw [← str_len, ← str_len]
      rw [e1]
      omega
  exact e
end Bk
set_option Elab.async false
set_option linter.all false
set_option maxRecDepth 100000
set_option maxHeartbeats 4000000
/-! Bk24: replace of written texts behind a token. -/
namespace Bk
open PySem PySem.Spec PyProof.Rows L2
/-- a word that may be put in -/
structure WordOk (b : Nat) (s : Str) : Prop where
  len : s.length ≤ b
  sign : ∀ c ∈ s.cps.toList, c < 0x110000
  few : s.cps.toList.count 10 ≤ 10
/-- a row that may stand among the others: long, some line feeds -/
structure NewRow (b : Nat) (s : Str) : Prop where
  len : s.length ≤ b
  sign : ∀ c ∈ s.cps.toList, c < 0x110000
  few : s.cps.toList.count 10 ≤ 20
theorem app3 (a b : Str) : ((a ++ (" " : Str)) ++ b).cps.toList = a.cps.toList ++ [32] ++ b.cps.toList := by
  show ((a.cps ++ (" " : Str).cps) ++ b.cps).toList = _
  have e : (" " : Str).cps.toList = [32] := by decide +kernel
  rw [Array.toList_append, Array.toList_append, e]
theorem WordOk.two {L : Nat} {s : Str} (h : WordOk (L + 10) s) (hL : 1 ≤ L) : NewRow (3 * L + 20) ((s ++ (" " : Str)) ++ s) := by
  have hl := h.len
  have hf := h.few
  refine ⟨?_, fun c hc => ?_, ?_⟩
  · rw [str_len, app3, List.length_append, List.length_append, List.length_singleton, ← str_len]
    omega
  · rw [app3] at hc
    rcases List.mem_append.1 hc with hc | hc
    · rcases List.mem_append.1 hc with hc | hc
      · exact h.sign c hc
      · rw [List.mem_singleton.1 hc]; decide
    · exact h.sign c hc
  · rw [app3, List.count_append, List.count_append]
    have : List.count 10 [32] = 0 := by decide
    omega
end Bk
set_option Elab.async false
set_option linter.all false
set_option maxRecDepth 100000
set_option maxHeartbeats 4000000
/-! Bk25: a wood that is looked at and let by; what a text of a wood comes to. -/
namespace Bk
open PySem PySem.Spec PyProof.Rows L2
end Bk
set_option Elab.async false
set_option linter.all false
set_option maxRecDepth 100000
set_option maxHeartbeats 4000000
/-! Bk26: zip(a, b) of lists and tuples of one length, of whichever sort each. -/
namespace Bk
open PySem PySem.Spec PyProof.Rows L2
/-! ### the turns -/
end Bk
set_option Elab.async false
set_option linter.all false
set_option maxRecDepth 100000
set_option maxHeartbeats 4000000
/-! Bk27: readers as data: counts and rules; what is amiss in one. -/
namespace Bk
open PySem PySem.Spec PyProof.Rows L2
abbrev Fx := Int × Int
abbrev Tm := Fx × List (Option Int)
abbrev Sm := List Tm
abbrev Rl := List Sm
abbrev Rd := List Int × List Rl
def fxD (f : Fx) : D := .tup [.int f.1, .int f.2]
def bxD : Option Int → D
  | none => .non
  | some i => .int i
def tmD (t : Tm) : D := .tup [fxD t.1, .tup (t.2.map bxD)]
def smD (s : Sm) : D := .tup (s.map tmD)
def rlD (r : Rl) : D := .tup (r.map smD)
def rdD (r : Rd) : D := .tup [.tup (r.1.map D.int), .tup (r.2.map rlD)]
theorem Reps.two {H : Hp} {d e : D} {vs : List V} (h : Reps H [d, e] vs) : ∃ x y, vs = [x, y] ∧ Rep H d x ∧ Rep H e y := by
  obtain ⟨x, r, rfl, hx, h⟩ := h
  obtain ⟨y, r, rfl, hy, h⟩ := h
  have : r = [] := by simpa only [Reps] using h
  subst this
  exact ⟨x, y, rfl, hx, hy⟩
theorem Rep.tupO {H : Hp} {ds : List D} {a : Addr} {xs : List V} (ha : H a = some (.tup xs)) (h : Reps H ds xs) : Rep H (.tup ds) (.ref a) := by
  simp only [Rep]
  exact ⟨a, xs, rfl, ha, h⟩
theorem Rep.rd {H : Hp} {r : Rd} {a c b : Addr} {xs : List V} (ha : H a = some (.tup [.ref c, .ref b])) (hc : H c = some (.tup (r.1.map V.int))) (hb : H b = some (.tup xs)) (rb : Reps H (r.2.map rlD) xs) : Rep H (rdD r) (.ref a) :=
  Rep.two ha (Rep.ints hc) (Rep.tupO hb rb)
theorem boxes_hard : ∀ bs : List (Option Int), D.hards (bs.map bxD) = true
  | [] => rfl
  | b :: bs => by
    show ((bxD b).hard && D.hards (bs.map bxD)) = true
    rw [boxes_hard bs]
    cases b <;> rfl
theorem tm_hard (t : Tm) : (tmD t).hard = true := by
  show ((fxD t.1).hard && (D.hards (t.2.map bxD) && true)) = true
  rw [boxes_hard]
  rfl
theorem hards_map {α : Type} {f : α → D} (h : ∀ x, (f x).hard = true) : ∀ xs : List α, D.hards (xs.map f) = true
  | [] => rfl
  | x :: xs => by
    show ((f x).hard && D.hards (xs.map f)) = true
    rw [h x, hards_map h xs]
    rfl
theorem sm_hard (s : Sm) : (smD s).hard = true := hards_map tm_hard s
theorem rl_hard (r : Rl) : (rlD r).hard = true := hards_map sm_hard r
theorem rd_hard (r : Rd) : (rdD r).hard = true := by
  show (D.hards (r.1.map D.int) && (D.hards (r.2.map rlD) && true)) = true
  rw [ints_hard, hards_map rl_hard]
  rfl
/-! ### what is amiss -/
def cntAt (cs : List Int) (n : Int) : Int := cs.getD n.toNat 0
def boxOk (cs : List Int) (p : Int × Option Int) : Bool := match p.2 with
  | none => true
  | some b => decide (0 ≤ b ∧ b < cntAt cs p.1)
/-! ### bounds -/
theorem tab_of : ∀ {w : Wd} {n : Nat} {e : Nat × Mk}, e ∈ tabFrom n w → ∃ (i : Nat) (k : Str × List Mk), w[i]? = some k ∧ e.2 ∈ k.2 ∧ e.1 = n + i
  | [], n, e, h => nomatch h
  | k :: w, n, e, h => by
    rcases List.mem_append.1 (show e ∈ k.2.map (fun m => (n, m)) ++ tabFrom (n + 1) w from h) with h | h
    · obtain ⟨m, hm, rfl⟩ := List.mem_map.1 h
      exact ⟨0, k, rfl, hm, rfl⟩
    · obtain ⟨i, k2, h1, h2, h3⟩ := tab_of h
      exact ⟨i + 1, k2, h1, h2, by omega⟩
theorem dueOf_in {w : Wd} (ok : WoodOk w) {e : Nat × Mk} (he : e ∈ tabFrom 0 w) : e.1 < w.length ∧ (dueOf w e).length = e.2.2.length ∧ e.2.2.length ≤ 2 ∧ ∀ x ∈ dueOf w e, 0 ≤ x ∧ x < (w.length : Nat) := by
  obtain ⟨i, k, hk, hm, he1⟩ := tab_of he
  have hkm := List.mem_of_getElem? hk
  have z := ok.mkr k hkm e.2 hm
  refine ⟨?_, by unfold dueOf; rw [List.length_map], z.2.1, fun x hx => ?_⟩
  · have := (List.getElem?_eq_some_iff.1 hk).1
    omega
  · unfold dueOf at hx
    obtain ⟨s, hs, rfl⟩ := List.mem_map.1 hx
    obtain ⟨k2, hk2, e2⟩ := List.mem_map.1 (z.2.2 s hs)
    obtain ⟨j, hj⟩ := List.mem_iff_getElem?.1 hk2
    rw [← e2, kno_idx ok.knd hj]
    have := (List.getElem?_eq_some_iff.1 hj).1
    omega
/-! ### readers that are drawn -/
theorem zip_at {α β : Type} {as : List α} {bs : List β} {i : Nat} {a : α} {b : β} (ha : as[i]? = some a) (hb : bs[i]? = some b) : (as.zip bs)[i]? = some (a, b) := List.getElem?_zip_eq_some.2 ⟨ha, hb⟩
def FxOk (f : Fx) : Prop := 0 < f.2 ∧ Int.gcd f.1 f.2 = 1 ∧ f.1.natAbs ≤ 1000 ∧ f.2 ≤ 100
structure TmOk (cs ps : List Int) (t : Tm) : Prop where
  num : FxOk t.1
  len : t.2.length = ps.length
  box : (ps.zip t.2).all (boxOk cs) = true
structure RdOkC (m : Int) (w : Wd) (r : Rd) : Prop where
  counts : r.1.length = w.length
  count : ∀ c ∈ r.1, 0 ≤ c ∧ c ≤ m
  rules : r.2.length = (tabFrom 0 w).length
  rule : ∀ (j : Nat) (e : Nat × Mk) (x : Rl), (tabFrom 0 w)[j]? = some e → r.2[j]? = some x → (x.length : Int) = cntAt r.1 e.1 ∧ ∀ s ∈ x, s.length ≤ 6 ∧ ∀ t ∈ s, TmOk r.1 (dueOf w e) t
abbrev RdOk := RdOkC 4
theorem fx_low {u l : Int} (h : 0 < l) : 0 < l.fdiv ((Int.gcd u l : Nat) : Int) ∧ Int.gcd (u.fdiv ((Int.gcd u l : Nat) : Int)) (l.fdiv ((Int.gcd u l : Nat) : Int)) = 1 ∧ (u.fdiv ((Int.gcd u l : Nat) : Int)).natAbs ≤ u.natAbs ∧ l.fdiv ((Int.gcd u l : Nat) : Int) ≤ l := by
  have g0 : 0 < Int.gcd u l := Int.gcd_pos_of_ne_zero_right u (by omega)
  have g1 : ((Int.gcd u l : Nat) : Int) ≠ 0 := by omega
  have d1 : ((Int.gcd u l : Nat) : Int) ∣ u := Int.gcd_dvd_left _ _
  have d2 : ((Int.gcd u l : Nat) : Int) ∣ l := Int.gcd_dvd_right _ _
  have m1 := Int.fdiv_mul_cancel d1
  have m2 := Int.fdiv_mul_cancel d2
  have p2 : 0 < l.fdiv ((Int.gcd u l : Nat) : Int) := by
    refine Int.pos_of_mul_pos_left ?_ (by omega : (0 : Int) < ((Int.gcd u l : Nat) : Int))
    rw [m2]
    exact h
  refine ⟨p2, ?_, fdiv_le g1 d1, ?_⟩
  · have := Int.gcd_mul_right (u.fdiv ((Int.gcd u l : Nat) : Int)) ((Int.gcd u l : Nat) : Int) (l.fdiv ((Int.gcd u l : Nat) : Int))
    rw [m1, m2] at this
    rw [Int.natAbs_natCast] at this
    have e : Int.gcd (u.fdiv ((Int.gcd u l : Nat) : Int)) (l.fdiv ((Int.gcd u l : Nat) : Int)) * Int.gcd u l = 1 * Int.gcd u l := by omega
    exact Nat.eq_of_mul_eq_mul_right g0 e
  · have := fdiv_le g1 d2
    omega
/-! ### readers spoilt -/
end Bk
set_option Elab.async false
set_option linter.all false
set_option maxRecDepth 100000
set_option maxHeartbeats 4000000
/-! Bk28: readers spoilt, within bounds. -/
namespace Bk
open PySem PySem.Spec PyProof.Rows L2
def TmN (n : Nat) (t : Tm) : Prop := t.2.length ≤ 2 + n ∧ Bits 20 t.1.1 ∧ Bits 20 t.1.2
def SmN (n : Nat) (s : Sm) : Prop := s.length ≤ 6 + n ∧ ∀ t ∈ s, TmN n t
def RlN (n : Nat) (x : Rl) : Prop := x.length ≤ 4 + n ∧ ∀ s ∈ x, SmN n s
structure RdN (n : Nat) (r : Rd) : Prop where
  counts : r.1.length ≤ 4 + n
  rules : r.2.length ≤ 12 + n
  rule : ∀ x ∈ r.2, RlN n x
theorem TmN.le {n m : Nat} {t : Tm} (h : TmN n t) (hm : n ≤ m) : TmN m t := ⟨by have := h.1; omega, h.2⟩
theorem SmN.le {n m : Nat} {s : Sm} (h : SmN n s) (hm : n ≤ m) : SmN m s := ⟨by have := h.1; omega, fun t ht => (h.2 t ht).le hm⟩
theorem RlN.le {n m : Nat} {x : Rl} (h : RlN n x) (hm : n ≤ m) : RlN m x := ⟨by have := h.1; omega, fun s hs => (h.2 s hs).le hm⟩
theorem RdN.le {n m : Nat} {r : Rd} (h : RdN n r) (hm : n ≤ m) : RdN m r := ⟨by have := h.counts; omega, by have := h.rules; omega, fun x hx => (h.rule x hx).le hm⟩
/-! ### what stands while a box is drawn from -/
def Kp (p : Addr) (H H' : Hp) : Prop := But p H H' ∧ Box H' p ∧ Tk H H'
theorem Kp.refl {p : Addr} {H : Hp} (h : Box H p) : Kp p H H := ⟨But.refl _ _, h, Tk.refl _⟩
theorem Kp.but {p : Addr} {H H1 H2 : Hp} (k : Kp p H H1) (b : But p H1 H2) (hb : Box H2 p) : Kp p H H2 := ⟨k.1.trans b, hb, k.2.2.trans (k.2.1.tk b)⟩
theorem Kp.ex {p : Addr} {H H1 H2 : Hp} (k : Kp p H H1) (e : Ex H1 H2) : Kp p H H2 := k.but (e.but p) (k.2.1.ex e)
theorem Kp.trans {p : Addr} {H H1 H2 : Hp} (k : Kp p H H1) (k2 : Kp p H1 H2) : Kp p H H2 := k.but k2.1 k2.2.1
theorem Reps.tkm {α : Type} {f : α → D} {H H' : Hp} {as : List α} {xs : List V} (t : Tk H H') (hf : ∀ a, (f a).hard = true) (r : Reps H (as.map f) xs) : Reps H' (as.map f) xs := Reps.tk t (hards_map hf as) r
theorem Kp.free {p a : Addr} {H H1 : Hp} (k : Kp p H H1) (h : H1 a = none) : H a = none := by
  have n := k.2.1.ne h
  cases e : H a with
  | none => rfl
  | some o =>
    have := k.1 a o n e
    rw [h] at this
    cases this
theorem Kp.ne {p a : Addr} {H H1 : Hp} (k : Kp p H H1) (h : H1 a = none) : a ≠ p := k.2.1.ne h
/-! ### what is told is text -/
end Bk
set_option Elab.async false
set_option linter.all false
set_option maxRecDepth 100000
set_option maxHeartbeats 4000000
/-! Bk29: fractions added and multiplied, how great they become. -/
namespace Bk
open PySem PySem.Spec PyProof.Rows L2
/-- the lower number goes into N, the worth is at most A -/
structure Szf (A N : Nat) (f : Fx) : Prop where
  pos : 0 < f.2
  dvd : f.2.natAbs ∣ N
  le : f.1.natAbs ≤ A * f.2.natAbs
def lowF (u l : Int) : Fx := (fru u l, frl u l)
def mulF (f g : Fx) : Fx := lowF (f.1 * g.1) (f.2 * g.2)
def addF (f g : Fx) : Fx := lowF (f.1 * g.2 + g.1 * f.2) (f.2 * g.2)
theorem Szf.mono {A B N M : Nat} {f : Fx} (h : Szf A N f) (ha : A ≤ B) (hn : N ∣ M) : Szf B M f := ⟨h.pos, Nat.dvd_trans h.dvd hn, Nat.le_trans h.le (Nat.mul_le_mul_right _ ha)⟩
theorem low_parts {u l : Int} (h : 0 < l) : fru u l * (Int.gcd u l : Nat) = u ∧ frl u l * (Int.gcd u l : Nat) = l ∧ 0 < frl u l ∧ Nat.gcd (fru u l).natAbs (frl u l).natAbs = 1 := by
  have e : fpt u l = (Int.gcd u l : Nat) := if_neg (by omega)
  obtain ⟨f1, f2, _, _⟩ := fx_low (u := u) h
  have d1 : ((Int.gcd u l : Nat) : Int) ∣ u := Int.gcd_dvd_left _ _
  have d2 : ((Int.gcd u l : Nat) : Int) ∣ l := Int.gcd_dvd_right _ _
  unfold fru frl
  rw [e]
  exact ⟨Int.fdiv_mul_cancel d1, Int.fdiv_mul_cancel d2, f1, f2⟩
theorem Szf.bits {A N n m : Nat} {f : Fx} (h : Szf A N f) (hN : N < 2 ^ n) (hA : A < 2 ^ m) (h0 : 0 < N) : Bits n f.2 ∧ Bits (m + n) f.1 := by
  have l2 : f.2.natAbs ≤ N := Nat.le_of_dvd h0 h.dvd
  refine ⟨Nat.lt_of_le_of_lt l2 hN, ?_⟩
  show f.1.natAbs < 2 ^ (m + n)
  refine Nat.lt_of_le_of_lt h.le ?_
  rw [Nat.pow_add]
  refine Nat.lt_of_le_of_lt (Nat.mul_le_mul_left _ l2) ?_
  exact Nat.mul_lt_mul'' hA hN
def stepF (f : Fx) (x : List Fx × Option Int) : Fx := match x.2 with
  | none => f
  | some i => mulF f (x.1.getD i.toNat (0, 1))
def prodF (f : Fx) (l : List (List Fx × Option Int)) : Fx := l.foldl stepF f
def plusF (parts : List (List Fx)) (f : Fx) (t : Tm) : Fx := addF f (prodF t.1 (parts.zip t.2))
def sumF (parts : List (List Fx)) (s : Sm) : Fx := s.foldl (plusF parts) (0, 1)
def madeF (parts : List (List Fx)) (r : Rl) : List Fx := r.map (sumF parts)
/-- a sum's terms fit: as many boxes as parts, each there, no product too great -/
structure FitS (A N : Nat) (parts : List (List Fx)) (s : Sm) : Prop where
  many : s.length ≤ 6
  term : ∀ t ∈ s, t.2.length = parts.length ∧ (∀ (j : Nat) (p : List Fx) (i : Int), parts[j]? = some p → t.2[j]? = some (some i) → 0 ≤ i ∧ i < (p.length : Nat)) ∧ ∀ j, Szf A N (prodF t.1 ((parts.zip t.2).take j))
structure FitP (A N : Nat) (parts : List (List Fx)) : Prop where
  nat : 0 < N
  lower : N < 2 ^ 5500
  upper : 6 * A < 2 ^ 1000
  part : ∀ p ∈ parts, ∀ f ∈ p, Szf A N f
theorem FitP.num {A N : Nat} {parts : List (List Fx)} (h : FitP A N parts) {B : Nat} {f : Fx} (hB : B ≤ 6 * A) (s : Szf B N f) : 0 < f.2 ∧ Bits 6500 f.1 ∧ Bits 5500 f.2 := by
  have z := s.bits h.lower (Nat.lt_of_le_of_lt hB h.upper) h.nat
  exact ⟨s.pos, z.2.le, z.1.le⟩
end Bk
set_option Elab.async false
set_option linter.all false
set_option maxRecDepth 100000
set_option maxHeartbeats 4000000
/-! Bk30: zip(a, b, c) of lists and tuples of one length. -/
namespace Bk
open PySem PySem.Spec PyProof.Rows L2
end Bk
set_option Elab.async false
set_option linter.all false
set_option maxRecDepth 100000
set_option maxHeartbeats 4000000
/-! Bk31: readers as deeds. -/
namespace Bk
open PySem PySem.Spec PyProof.Rows L2
/-! ### contracts -/
end Bk
set_option Elab.async false
set_option linter.all false
set_option maxRecDepth 100000
set_option maxHeartbeats 4000000
/-! Bk32: deeds done on a bench. -/
namespace Bk
open PySem PySem.Spec PyProof.Rows L2
def LowF (f : Fx) : Prop := 0 < f.2 ∧ Int.gcd f.1 f.2 = 1
/-! ### the same fractions compared -/
end Bk
set_option Elab.async false
set_option linter.all false
set_option maxRecDepth 100000
set_option maxHeartbeats 4000000
/-! Bk33: small fractions in boxes; readers told as deeds. -/
namespace Bk
open PySem PySem.Spec PyProof.Rows L2
theorem FxOk.low {f : Fx} (h : FxOk f) : LowF f := ⟨h.1, h.2.1⟩
/-- a box, a wood, a reader asked about -/
def AskedAt (H : Hp) (x : V) : Prop := ∃ (a p : Addr) (w : Wd) (r : Rd) (wv rv : V), x = .ref a ∧ H a = some (.tup [.ref p, wv, rv]) ∧ Box H p ∧ Rep H (woodD w) wv ∧ WoodOk w ∧ Rep H (rdD r) rv ∧ RdOk w r
theorem AskedAt.ex {H H' : Hp} {x : V} (h : AskedAt H x) (e : Ex H H') : AskedAt H' x := by
  obtain ⟨a, p, w, r, wv, rv, h1, h2, h3, h4, h5, h6, h7⟩ := h
  exact ⟨a, p, w, r, wv, rv, h1, e _ _ h2, h3.ex e, h4.ex e, h5, h6.ex e, h7⟩
theorem AskedAt.kp {H H' : Hp} {x : V} {q : Addr} (h : AskedAt H x) (k : Kp q H H') : AskedAt H' x := by
  obtain ⟨a, p, w, r, wv, rv, h1, h2, h3, h4, h5, h6, h7⟩ := h
  refine ⟨a, p, w, r, wv, rv, h1, k.2.2 _ _ h2, ?_, h4.tk k.2.2 (wood_hard w), h5, h6.tk k.2.2 (rd_hard r), h7⟩
  by_cases c : p = q
  · subst c
    exact k.2.1
  · exact h3.but k.1 c
end Bk
set_option Elab.async false
set_option linter.all false
set_option maxRecDepth 100000
set_option maxHeartbeats 4000000
/-! Bk34: trees read by readers. -/
namespace Bk
open PySem PySem.Spec PyProof.Rows L2
/-! ### a tree's rows, one after the other -/
def ruleOf (w : Wd) (r : Rd) (s : Str) : Rl := match ((tabFrom 0 w).zip r.2).find? (fun x => decide (x.1.2.1 = s)) with
  | some x => x.2
  | none => []
def partsF (acc : List (List Fx)) (ns : List Int) : List (List Fx) := ns.map fun n => acc.getD n.toNat []
def rowF (w : Wd) (r : Rd) (acc : List (List Fx)) (row : Str × List Int) : List Fx := madeF (partsF acc row.2) (ruleOf w r row.1)
def readF (w : Wd) (r : Rd) (t : Tr) : List (List Fx) := t.foldl (fun acc row => acc ++ [rowF w r acc row]) []
structure RowFit (w : Wd) (r : Rd) (acc : List (List Fx)) (row : Str × List Int) : Prop where
  made : ∃ (j : Nat) (e : Nat × Mk), (tabFrom 0 w)[j]? = some e ∧ e.2.1 = row.1 ∧ r.2[j]? = some (ruleOf w r row.1)
  idx : ∀ n ∈ row.2, 0 ≤ n ∧ n < (acc.length : Nat)
  two : row.2.length ≤ 2
  rule : (ruleOf w r row.1).length ≤ 10
  fits : ∃ A N, FitP A N (partsF acc row.2) ∧ ∀ s ∈ ruleOf w r row.1, FitS A N (partsF acc row.2) s
def TreeFit (w : Wd) (r : Rd) (t : Tr) : Prop := ∀ (i : Nat) (row : Str × List Int), t[i]? = some row → RowFit w r (readF w r (t.take i)) row
/-! ### how great the rows' trees are -/
structure SzsOk (size : Int) (t : Tr) (szs : List Int) : Prop where
  le : ∀ s ∈ szs, 1 ≤ s ∧ s ≤ size
  row : ∀ (j : Nat) (r : Str × List Int), t[j]? = some r → szs[j]? = some (1 + (r.2.map fun n => szs.getD n.toNat 0).sum) ∧ ∀ n ∈ r.2, 0 ≤ n ∧ n < (j : Int)
theorem SzsOk.nil {size : Int} : SzsOk size [] [] := ⟨fun s h => (nomatch h), fun j r h => by simp at h⟩
theorem sum_nonneg : ∀ {l : List Int}, (∀ x ∈ l, 0 ≤ x) → 0 ≤ l.sum
  | [], _ => Int.le_refl _
  | x :: l, h => by
    have a := h x List.mem_cons_self
    have b := sum_nonneg (l := l) fun y hy => h y (List.mem_cons_of_mem _ hy)
    rw [List.sum_cons]
    omega
end Bk
set_option Elab.async false
set_option linter.all false
set_option maxRecDepth 100000
set_option maxHeartbeats 4000000
/-! Bk35: how great the fractions in a tree's boxes become. -/
namespace Bk
open PySem PySem.Spec PyProof.Rows L2
structure PartsAt (w : Wd) (r : Rd) (t : Tr) (i : Nat) (row : Str × List Int) (j : Nat) (e : Nat × Mk) : Prop where
  tab : (tabFrom 0 w)[j]? = some e
  nm : e.2.1 = row.1
  len : row.2.length = (dueOf w e).length
  two : row.2.length ≤ 2
  idx : ∀ (u : Nat) (n : Int), row.2[u]? = some n → 0 ≤ n ∧ n < (i : Int) ∧ ∃ q, t[n.toNat]? = some q ∧ (dueOf w e)[u]? = some (kindAt w q.1)
  kind : kindAt w row.1 = (e.1 : Nat)
/-! ### small whole numbers, one box in a term -/
end Bk
set_option Elab.async false
set_option linter.all false
set_option maxRecDepth 100000
set_option maxHeartbeats 4000000
/-! Bk36: thin readers; what k15 asks about. -/
namespace Bk
open PySem PySem.Spec PyProof.Rows L2
def AskedT (H : Hp) (x : V) : Prop := ∃ (a : Addr) (w : Wd) (r : Rd) (t : Tr) (wv rv tv : V), x = .ref a ∧ H a = some (.tup [wv, rv, tv]) ∧ Rep H (woodD w) wv ∧ WoodOk w ∧ Rep H (rdD r) rv ∧ RdOk w r ∧ Rep H (treeD t) tv ∧ t.length ≤ 60 ∧ t ≠ [] ∧ TreeFit w r t
theorem AskedT.tk {H H' : Hp} {x : V} (h : AskedT H x) (e : Tk H H') : AskedT H' x := by
  obtain ⟨a, w, r, t, wv, rv, tv, h1, h2, h3, h4, h5, h6, h7, h8⟩ := h
  exact ⟨a, w, r, t, wv, rv, tv, h1, e _ _ h2, h3.tk e (wood_hard w), h4, h5.tk e (rd_hard r), h6, h7.tk e (tree_hard t), h8⟩
end Bk
set_option Elab.async false
set_option linter.all false
set_option maxRecDepth 100000
set_option maxHeartbeats 4000000
/-! Bk37: names drawn, alike but at one place (the later laws' names). -/
namespace Bk
open PySem PySem.Spec PyProof.Rows L2
end Bk
set_option Elab.async false
set_option linter.all false
set_option maxRecDepth 100000
set_option maxHeartbeats 4000000
/-! Bk38: dicts whose keys are (text, (whole numbers)). -/
namespace Bk
open PySem PySem.Spec PyProof.Rows L2
/-- a mark: a name and whole numbers -/
abbrev Mark := Str × List Int
def nk (m : Mark) : NestedKey := .tup [.text m.1, .tup (m.2.map NestedKey.num)]
theorem nums_inj : ∀ {a b : List Int}, a.map NestedKey.num = b.map NestedKey.num → a = b
  | [], [], _ => rfl
  | [], _ :: _, h => nomatch h
  | _ :: _, [], h => nomatch h
  | x :: a, y :: b, h => by
    rw [List.map_cons, List.map_cons] at h
    injection h with h1 h2
    injection h1 with h1
    rw [h1, nums_inj h2]
theorem nk_inj {a b : Mark} (h : nk a = nk b) : a = b := by
  unfold nk at h
  injection h with h
  injection h with h1 h2
  injection h1 with h1
  injection h2 with h2 _
  injection h2 with h2
  exact Prod.ext h1 (nums_inj h2)
/-- the mark m stands at a -/
def MarkAt (H : Hp) (a : Addr) (m : Mark) : Prop := ∃ t, H a = some (.tup [.str m.1, .ref t]) ∧ H t = some (.tup (m.2.map V.int))
theorem MarkAt.tk {H H' : Hp} {a : Addr} {m : Mark} (t : Tk H H') (h : MarkAt H a m) : MarkAt H' a m := by
  obtain ⟨q, a1, a2⟩ := h
  exact ⟨q, t _ _ a1, t _ _ a2⟩
/-- the entries: mark, its address, what is held -/
abbrev Nx : List (Mark × Addr × V) → List (NestedKey × Addr × Value) → Prop := Paired fun p q => q.1 = nk p.1 ∧ q.2.1 = p.2.1 ∧ RelV p.2.2 q.2.2
def kvm (ps : List (Mark × Addr × V)) : List (Mark × V) := ps.map fun p => (p.1, p.2.2)
def NdO (P : Program) (w : World) (a : Addr) (ps : List (Mark × Addr × V)) : HO := .ext fun h => ps.length ≤ sizeLine ∧ (a == sysModules) = false ∧ ∃ xs, Nx ps xs ∧
  ∃ o es ep, h.get? a = some o ∧ o.ExactDict ∧ o.data = .dict es ep ∧ es.toList = xs.map (entryOfKey (nestedKind P w)) ∧ (xs.map (·.1)).Nodup
/-- the dict at a has these entries -/
def NdAt (P : Program) (w : World) (H : Hp) (a : Addr) (ps : List (Mark × Addr × V)) : Prop := (H a = some (NdO P w a ps) ∨ (ps = [] ∧ H a = some (.dK []))) ∧ ∀ p ∈ ps, MarkAt H p.2.1 p.1
section
variable {P : Program} {w : World} {H : Hp} {h : Heap} {a : Addr} {ps : List (Mark × Addr × V)}
theorem NdAt.notTup (g : NdAt P w H a ps) : ∀ b ys, H b = some (.tup ys) → b ≠ a := fun b ys e z => by
  subst z
  rcases g.1 with q | ⟨_, q⟩
  · rw [e] at q
    cases q
  · rw [e] at q
    cases q
theorem NdAt.at_some (g : NdAt P w H a ps) : H a = some ((H a).getD (.dK [])) := by
  rcases g.1 with e | ⟨_, e⟩ <;> rw [e] <;> rfl
theorem NdAt.ex {H' : Hp} (g : NdAt P w H a ps) (e : Ex H H') : H' a = H a := by
  rw [g.at_some]
  exact e _ _ g.at_some
theorem Nx.val {xs : List (NestedKey × Addr × Value)} (r : Nx ps xs) (m : Mark) : RelO (valV (kvm ps) m) ((atKey xs (nk m)).map (·.2)) := by
  induction r with
  | nil => exact True.intro
  | @cons p q ps qs h t ih =>
    obtain ⟨h1, _, h2⟩ := h
    by_cases e : p.1 = m
    · have e' : q.1 = nk m := by rw [h1, e]
      have b : atKey (q :: qs) (nk m) = some q.2 := by simp [atKey, List.find?_cons, e']
      rw [b]
      show RelO (valV ((p.1, p.2.2) :: kvm ps) m) _
      rw [valV_pos (p := (p.1, p.2.2)) e]
      exact h2
    · have e' : ¬ q.1 = nk m := fun z => e (nk_inj (h1.symm.trans z))
      have b : atKey (q :: qs) (nk m) = atKey qs (nk m) := by simp [atKey, List.find?_cons, e']
      rw [b]
      show RelO (valV ((p.1, p.2.2) :: kvm ps) m) _
      rw [valV_neg (p := (p.1, p.2.2)) e]
      exact ih
theorem Nx.len {xs : List (NestedKey × Addr × Value)} (r : Nx ps xs) : ps.length = xs.length := Paired.length r
theorem NdAt.keep {H' : Hp} (g : NdAt P w H a ps) (ha : H' a = H a) (t : Tk H H') : NdAt P w H' a ps := ⟨by rw [ha]; exact g.1, fun p hp => (g.2 p hp).tk t⟩
/-- an entry put behind -/
theorem NdAt.snoc (g : NdAt P w H a ps) {m : Mark} {b : Addr} (hb : MarkAt H b m) (v : V) : NdAt P w (upd H a (NdO P w a (ps ++ [(m, b, v)]))) a (ps ++ [(m, b, v)]) := by
  have t : Tk H (upd H a (NdO P w a (ps ++ [(m, b, v)]))) := fun c ys e => by
    rw [upd_ne (g.notTup c ys e)]
    exact e
  refine ⟨.inl upd_same, fun p hp => ?_⟩
  rcases List.mem_append.1 hp with hp | hp
  · exact (g.2 p hp).tk t
  · rw [List.mem_singleton.1 hp]
    exact hb.tk t
end
end Bk
set_option Elab.async false
set_option linter.all false
set_option maxRecDepth 100000
set_option maxHeartbeats 4000000
/-! Bk39: printers as data, drawn. -/
namespace Bk
open PySem PySem.Spec PyProof.Rows L2
/-! ### list(text) -/
/-! ### printers -/
abbrev Itm := Str ⊕ (Int × Int)
def bdD (b : Int × Int) : D := .tup [.int b.1, .int b.2]
def itD : Itm → D
  | .inl s => .str s
  | .inr b => bdD b
theorem it_hard (i : Itm) : (itD i).hard = true := by cases i <;> rfl
/-! ### lists that are filled row by row -/
structure RowsI (H : Hp) (ras : List Addr) (R : List (List Itm)) : Prop where
  len : ras.length = R.length
  nd : ras.Nodup
  at_ : ∀ (q : Nat) (a : Addr) (r : List Itm), ras[q]? = some a → R[q]? = some r → ∃ us, H a = some (.lst us) ∧ Reps H (r.map itD) us
theorem RowsI.get {H : Hp} {ras : List Addr} {R : List (List Itm)} (h : RowsI H ras R) {q : Nat} (hq : q < R.length) : ∃ a r us, ras[q]? = some a ∧ R[q]? = some r ∧ H a = some (.lst us) ∧ Reps H (r.map itD) us := by
  have hq2 : q < ras.length := by rw [h.len]; exact hq
  obtain ⟨us, a, b⟩ := h.at_ q _ _ (List.getElem?_eq_getElem hq2) (List.getElem?_eq_getElem hq)
  exact ⟨_, _, us, List.getElem?_eq_getElem hq2, List.getElem?_eq_getElem hq, a, b⟩
theorem RowsI.keep {H H' : Hp} {ras : List Addr} {R : List (List Itm)} (h : RowsI H ras R) (t : Tk H H') (k : ∀ a ∈ ras, ∀ us, H a = some (.lst us) → H' a = some (.lst us)) : RowsI H' ras R := ⟨h.len, h.nd, fun q a r ha hr => by
  obtain ⟨us, hu, rs⟩ := h.at_ q a r ha hr
  exact ⟨us, k a (List.mem_of_getElem? ha) us hu, rs.tkm t it_hard⟩⟩
theorem Reps.erase {H : Hp} : ∀ {ds : List D} {vs : List V} {i : Nat}, Reps H ds vs → Reps H (ds.eraseIdx i) (vs.eraseIdx i)
  | [], vs, i, h => by
    simp only [Reps] at h
    subst h
    simp only [List.eraseIdx_nil, Reps]
  | d :: ds, vs, i, h => by
    obtain ⟨v, r, rfl, hv, hr⟩ := h
    cases i with
    | zero => exact hr
    | succ i => exact ⟨v, r.eraseIdx i, rfl, hv, Reps.erase hr⟩
end Bk
set_option Elab.async false
set_option linter.all false
set_option maxRecDepth 100000
set_option maxHeartbeats 4000000
/-! Bk40: the later laws' trees: drawn, their sizes. -/
namespace Bk
open PySem PySem.Spec PyProof.Rows L2
structure TreeS (p R Kd : Addr) (w : Wd) (H H1 : Hp) (t : Tr) (rvs : List V) : Prop where
  bx0 : Box H p
  bt : But p H H1
  bx : Box H1 p
  hR : H R = none
  hK : H Kd = none
  RK : R ≠ Kd
  atR : H1 R = some (.lst rvs)
  atK : H1 Kd = some (.lst ((kindsT w t).map V.int))
  reps : Reps H1 (t.map rowD) rvs
  go : goTr w [] t = true
  row : ∀ r ∈ t, TextOk r.1 ∧ r.2.length ≤ 2
section
variable {p R Kd : Addr} {w : Wd} {H H1 H2 : Hp} {t : Tr} {rvs : List V}
theorem TreeS.np (s : TreeS p R Kd w H H1 t rvs) {a : Addr} (ha : H a = none) : a ≠ p := s.bx0.ne ha
theorem TreeS.free (s : TreeS p R Kd w H H1 t rvs) {a : Addr} (ha : H1 a = none) : H a = none := by
  cases e : H a with
  | none => rfl
  | some o =>
    by_cases z : a = p
    · subst z
      obtain ⟨_, _, _, q⟩ := s.bx
      rw [ha] at q
      cases q
    · rw [s.bt _ _ z e] at ha
      cases ha
theorem TreeS.but (s : TreeS p R Kd w H H1 t rvs) (b : But p H1 H2) (hb : Box H2 p) : TreeS p R Kd w H H2 t rvs :=
  { s with bt := s.bt.trans b, bx := hb, atR := b _ _ (s.np s.hR) s.atR, atK := b _ _ (s.np s.hK) s.atK, reps := s.reps.tk (s.bx.tk b) (rows_hard t) }
theorem TreeS.ex (s : TreeS p R Kd w H H1 t rvs) (e : Ex H1 H2) : TreeS p R Kd w H H2 t rvs := s.but (e.but p) (s.bx.ex e)
theorem TreeS.len (s : TreeS p R Kd w H H1 t rvs) : rvs.length = t.length := by rw [s.reps.len, List.length_map]
end
end Bk
set_option Elab.async false
set_option linter.all false
set_option maxRecDepth 100000
set_option maxHeartbeats 4000000
/-! Bk41: values of a tree's rows; the plain tree, step by step. -/
namespace Bk
open PySem PySem.Spec PyProof.Rows L2
/-! ### values of the rows -/
section
variable {β : Type}
def foldV (d : β) (f : Str → List β → β) (t : Tr) : List β := t.foldl (fun acc row => acc ++ [f row.1 (row.2.map fun n => acc.getD n.toNat d)]) []
theorem fold_len {γ : Type} (g : List β → γ → β) : ∀ (l : List γ) (acc : List β), (l.foldl (fun acc row => acc ++ [g acc row]) acc).length = acc.length + l.length
  | [], acc => rfl
  | r :: l, acc => by
    show (l.foldl _ (acc ++ [g acc r])).length = _
    rw [fold_len g l, List.length_append, List.length_cons, List.length_cons, List.length_nil]
    omega
theorem fold_pre {γ : Type} (g : List β → γ → β) : ∀ (l : List γ) (acc : List β), (l.foldl (fun acc row => acc ++ [g acc row]) acc).take acc.length = acc
  | [], acc => List.take_length
  | r :: l, acc => by
    show (l.foldl _ (acc ++ [g acc r])).take acc.length = acc
    have ih := congrArg (List.take acc.length) (fold_pre g l (acc ++ [g acc r]))
    rw [List.take_take, List.length_append, Nat.min_eq_left (Nat.le_add_right _ _)] at ih
    rw [ih, List.take_append_of_le_length (Nat.le_refl _), List.take_length]
variable {d : β} {f : Str → List β → β} {t : Tr}
theorem foldV_snoc {r : Str × List Int} : foldV d f (t ++ [r]) = foldV d f t ++ [f r.1 (r.2.map fun n => (foldV d f t).getD n.toNat d)] := by
  unfold foldV
  rw [List.foldl_append]
  rfl
theorem foldV_len : (foldV d f t).length = t.length := by
  exact (fold_len (fun (acc : List β) (row : Str × List Int) => f row.1 (row.2.map fun n => acc.getD n.toNat d)) t []).trans (by rw [List.length_nil, Nat.zero_add])
theorem foldV_pre (i : Nat) (h : i ≤ t.length) : (foldV d f t).take i = foldV d f (t.take i) := by
  have e : foldV d f t = (t.drop i).foldl (fun acc row => acc ++ [f row.1 (row.2.map fun n => acc.getD n.toNat d)]) (foldV d f (t.take i)) := by
    show t.foldl _ [] = _
    have z := congrArg (List.foldl (fun acc row => acc ++ [f row.1 (row.2.map fun n => acc.getD n.toNat d)]) []) (List.take_append_drop i t).symm
    rw [List.foldl_append] at z
    exact z
  have l : (foldV d f (t.take i)).length = i := by rw [foldV_len, List.length_take]; omega
  have p := fold_pre (fun (acc : List β) (row : Str × List Int) => f row.1 (row.2.map fun n => acc.getD n.toNat d)) (t.drop i) (foldV d f (t.take i))
  rw [l, ← e] at p
  exact p
/-- each row's numbers are of rows ahead of it -/
def TrIdx (t : Tr) : Prop := ∀ (i : Nat) (r : Str × List Int), t[i]? = some r → r.2.length ≤ 2 ∧ ∀ n ∈ r.2, 0 ≤ n ∧ n < (i : Int)
theorem foldV_at (ok : TrIdx t) {i : Nat} {r : Str × List Int} (h : t[i]? = some r) : (foldV d f t)[i]? = some (f r.1 (r.2.map fun n => (foldV d f t).getD n.toNat d)) := by
  have li := (List.getElem?_eq_some_iff.1 h).1
  have p := foldV_pre (d := d) (f := f) (i + 1) (Nat.succ_le_of_lt li)
  rw [take_at h, foldV_snoc] at p
  have l : (foldV d f (t.take i)).length = i := by rw [foldV_len, List.length_take]; omega
  have q : (foldV d f t)[i]? = ((foldV d f t).take (i + 1))[i]? := by rw [List.getElem?_take, if_pos (Nat.lt_succ_self i)]
  rw [q, p, List.getElem?_append_right (by omega), l, Nat.sub_self]
  show some _ = some _
  congr 2
  refine List.map_congr_left fun n hn => ?_
  have := (ok i r h).2 n hn
  rw [List.getD_eq_getElem?_getD, List.getD_eq_getElem?_getD, ← foldV_pre i (Nat.le_of_lt li), List.getElem?_take, if_pos (by omega)]
theorem foldV_app (ok : TrIdx t) (r : Str × List Int) {i : Nat} (h : i < t.length) : (foldV d f (t ++ [r]))[i]? = (foldV d f t)[i]? := by
  rw [foldV_snoc, List.getElem?_append_left (by rw [foldV_len]; exact h)]
end
theorem TrIdx.take {t : Tr} (ok : TrIdx t) (i : Nat) : TrIdx (t.take i) := fun j r h => by
  rw [List.getElem?_take] at h
  split at h
  · exact ok j r h
  · cases h
theorem TrIdx.snoc {t : Tr} (ok : TrIdx t) {r : Str × List Int} (h2 : r.2.length ≤ 2) (h : ∀ n ∈ r.2, 0 ≤ n ∧ n < (t.length : Int)) : TrIdx (t ++ [r]) := fun j q hq => by
  by_cases c : j < t.length
  · rw [List.getElem?_append_left c] at hq
    exact ok j q hq
  · rw [List.getElem?_append_right (by omega)] at hq
    have ej : j = t.length := by
      have := (List.getElem?_eq_some_iff.1 hq).1
      rw [List.length_singleton] at this
      omega
    subst ej
    rw [Nat.sub_self] at hq
    cases hq
    exact ⟨h2, h⟩
/-! ### sizes -/
def szf : Str → List Int → Int := fun _ ps => 1 + ps.sum
def szT (t : Tr) (a : Nat) : Int := (foldV 0 szf t).getD a 0
theorem szT_at {t : Tr} (ok : TrIdx t) {a : Nat} {r : Str × List Int} (h : t[a]? = some r) : szT t a = 1 + (r.2.map fun n => szT t n.toNat).sum := by
  unfold szT
  rw [List.getD_eq_getElem?_getD, foldV_at ok h]
  rfl
theorem sz_pos {t : Tr} (ok : TrIdx t) : ∀ (k a : Nat), a < k → a < t.length → 1 ≤ szT t a
  | 0, a, h, _ => absurd h (Nat.not_lt_zero _)
  | k + 1, a, h, hl => by
    have e := List.getElem?_eq_getElem hl
    rw [szT_at ok e]
    have := sum_nonneg (l := t[a].2.map fun n => szT t n.toNat) fun x hx => by
      obtain ⟨n, hn, rfl⟩ := List.mem_map.1 hx
      have z := (ok a _ e).2 n hn
      have := sz_pos ok k n.toNat (by omega) (by omega)
      omega
    omega
theorem sz_pos' {t : Tr} (ok : TrIdx t) {a : Nat} (h : a < t.length) : 1 ≤ szT t a := sz_pos ok (a + 1) a (Nat.lt_succ_self a) h
theorem mem_le_sumI : ∀ {l : List Int} {x : Int}, (∀ y ∈ l, 0 ≤ y) → x ∈ l → x ≤ l.sum
  | [], x, _, h => nomatch h
  | a :: l, x, hl, h => by
    rw [List.sum_cons]
    have a0 := hl a List.mem_cons_self
    have s0 := sum_nonneg (l := l) fun y hy => hl y (List.mem_cons_of_mem _ hy)
    rcases List.mem_cons.1 h with rfl | h
    · omega
    · have := mem_le_sumI (l := l) (fun y hy => hl y (List.mem_cons_of_mem _ hy)) h
      omega
theorem sz_part {t : Tr} (ok : TrIdx t) {a : Nat} {r : Str × List Int} (h : t[a]? = some r) {n : Int} (hn : n ∈ r.2) : szT t n.toNat < szT t a := by
  rw [szT_at ok h]
  have la := (List.getElem?_eq_some_iff.1 h).1
  have := mem_le_sumI (l := r.2.map fun n => szT t n.toNat) (x := szT t n.toNat) (fun y hy => by
    obtain ⟨m, hm, rfl⟩ := List.mem_map.1 hy
    have z := (ok a _ h).2 m hm
    have := sz_pos' ok (a := m.toNat) (by omega)
    omega) (List.mem_map.2 ⟨n, hn, rfl⟩)
  omega
/-! ### the plain tree -/
structure PlSt where
  left : List (Nat × Bool)
  rows : Tr
  own : List (Nat × Nat)
def ownAt (own : List (Nat × Nat)) (n : Nat) : Option Nat := (own.find? fun p => decide (p.1 = n)).map (·.2)
def rowAt (t : Tr) (a : Nat) : Str × List Int := t.getD a ("", [])
def markOf (t : Tr) (own : List (Nat × Nat)) (a : Nat) : Mark := ((rowAt t a).1, (rowAt t a).2.map fun n => (((ownAt own n.toNat).getD 0 : Nat) : Int))
def markIx (rows : Tr) (m : Mark) : Option Nat := rows.findIdx? fun r => decide (r = m)
def stepP (t : Tr) : PlSt → PlSt
  | ⟨[], rows, own⟩ => ⟨[], rows, own⟩
  | ⟨(a, b) :: left, rows, own⟩ =>
    if (ownAt own a).isSome = true then ⟨left, rows, own⟩
    else if b = true then
      match markIx rows (markOf t own a) with
      | some k => ⟨left, rows, own ++ [(a, k)]⟩
      | none => ⟨left, rows ++ [markOf t own a], own ++ [(a, rows.length)]⟩
    else ⟨(rowAt t a).2.map (fun n => (n.toNat, false)) ++ (a, true) :: left, rows, own⟩
def startP (t : Tr) : PlSt := ⟨[(t.length - 1, false)], [], []⟩
def runP (t : Tr) : Nat → PlSt
  | 0 => startP t
  | k + 1 => stepP t (runP t k)
theorem ownAt_mem {own : List (Nat × Nat)} {n k : Nat} (h : ownAt own n = some k) : (n, k) ∈ own := by
  unfold ownAt at h
  cases c : own.find? fun p => decide (p.1 = n) with
  | none => rw [c] at h; cases h
  | some p =>
    rw [c] at h
    cases h
    have := List.find?_some c
    have e : p.1 = n := of_decide_eq_true this
    rw [← e]
    exact List.mem_of_find?_eq_some c
theorem ownAt_app {own : List (Nat × Nat)} {a k n : Nat} : ownAt (own ++ [(a, k)]) n = (ownAt own n).or (if a = n then some k else none) := by
  unfold ownAt
  rw [List.find?_append]
  cases own.find? fun p => decide (p.1 = n) with
  | some p => rfl
  | none =>
    by_cases c : a = n
    · simp [List.find?_cons, c]
    · simp [List.find?_cons, c]
theorem ownAt_none {own : List (Nat × Nat)} {n : Nat} (h : ownAt own n = none) : n ∉ own.map (·.1) := fun hm => by
  obtain ⟨p, hp, rfl⟩ := List.mem_map.1 hm
  unfold ownAt at h
  rw [Option.map_eq_none_iff, List.find?_eq_none] at h
  exact h p hp (decide_eq_true rfl)
theorem rowAt_eq {t : Tr} {a : Nat} {r : Str × List Int} (h : t[a]? = some r) : rowAt t a = r := by
  unfold rowAt
  rw [List.getD_eq_getElem?_getD, h]
  rfl
theorem markIx_some {rows : Tr} {m : Mark} {k : Nat} (h : markIx rows m = some k) : rows[k]? = some m := by
  unfold markIx at h
  obtain ⟨h1, h2, _⟩ := List.findIdx?_eq_some_iff_getElem.1 h
  rw [List.getElem?_eq_getElem h1, of_decide_eq_true h2]
theorem markIx_none {rows : Tr} {m : Mark} (h : markIx rows m = none) : m ∉ rows := fun hm => by
  unfold markIx at h
  rw [List.findIdx?_eq_none_iff] at h
  have := h m hm
  simp at this
structure PInv (t : Tr) (s : PlSt) : Prop where
  stk : ∀ p ∈ s.left, p.1 < t.length
  ord : s.left.Pairwise fun p q => q.2 = true → p.1 < q.1
  part : ∀ (above below : List (Nat × Bool)) (a : Nat), s.left = above ++ (a, true) :: below → ∀ n ∈ (rowAt t a).2, (ownAt s.own n.toNat).isSome = true ∨ ∃ b, (n.toNat, b) ∈ above
  ownl : ∀ p ∈ s.own, p.1 < t.length ∧ p.2 < s.rows.length
  ownd : (s.own.map (·.1)).Nodup
  few : s.rows.length ≤ s.own.length
  nd : s.rows.Nodup
  idx : TrIdx s.rows
  name : ∀ p ∈ s.own, (rowAt s.rows p.2).1 = (rowAt t p.1).1
  same : ∀ p ∈ s.own, ∀ (β : Type) (d : β) (f : Str → List β → β), (foldV d f s.rows)[p.2]? = (foldV d f t)[p.1]?
  rowl : ∀ (k : Nat) (r : Str × List Int), s.rows[k]? = some r → ∃ a, a < t.length ∧ r.1 = (rowAt t a).1 ∧ r.2.length = (rowAt t a).2.length ∧ ∀ (j : Nat) (n m : Int), r.2[j]? = some n → (rowAt t a).2[j]? = some m → 0 ≤ m ∧ m.toNat < a ∧ 0 ≤ n ∧ n.toNat < k ∧ (rowAt s.rows n.toNat).1 = (rowAt t m.toNat).1
  base : (∃ pre b, s.left = pre ++ [(t.length - 1, b)] ∧ (∀ p ∈ pre, szT t p.1 < szT t (t.length - 1)) ∧ (∀ k, k < s.rows.length → szT s.rows k < szT t (t.length - 1)) ∧ ownAt s.own (t.length - 1) = none) ∨ (s.left = [] ∧ ∃ k, ownAt s.own (t.length - 1) = some k ∧ k + 1 = s.rows.length)
def cntP (t : Tr) (left : List (Nat × Bool)) (own : List (Nat × Nat)) : Nat := (List.range t.length).countP fun a => (ownAt own a).isNone && !decide ((a, true) ∈ left)
def measP (t : Tr) (s : PlSt) : Nat := s.left.length + 4 * cntP t s.left s.own
theorem PInv.start {t : Tr} (h : 0 < t.length) : PInv t (startP t) := by
  refine ⟨fun p hp => ?_, List.pairwise_singleton _ _, fun above below a e => ?_, fun p z => (nomatch z), List.nodup_nil, Nat.le_refl _, List.nodup_nil, fun i r z => by simp [startP] at z, fun p z => (nomatch z), fun p z => (nomatch z), fun k r z => by simp [startP] at z, .inl ⟨[], false, rfl, fun p z => (nomatch z), fun k z => absurd z (Nat.not_lt_zero _), rfl⟩⟩
  · rw [List.mem_singleton.1 hp]
    show t.length - 1 < t.length
    omega
  · exfalso
    have : (a, true) ∈ (startP t).left := by rw [e]; exact List.mem_append_right _ List.mem_cons_self
    have z := List.mem_singleton.1 this
    cases z
theorem countP_lt {α : Type} {p q : α → Bool} : ∀ {l : List α} {a : α}, (∀ x, q x = true → p x = true) → a ∈ l → p a = true → q a = false → l.countP q < l.countP p
  | [], a, _, h, _, _ => nomatch h
  | x :: l, a, hx, h, h1, h2 => by
    rw [List.countP_cons, List.countP_cons]
    have le : l.countP q ≤ l.countP p := List.countP_mono_left fun y _ => hx y
    rcases List.mem_cons.1 h with rfl | h
    · rw [if_pos h1, if_neg (by rw [h2]; exact Bool.false_ne_true)]
      omega
    · have := countP_lt (l := l) hx h h1 h2
      by_cases c : q x = true
      · rw [if_pos c, if_pos (hx x c)]
        omega
      · rw [if_neg c]
        omega
theorem getD_snoc {α : Type} {l : List α} {x d : α} {k : Nat} (h : k < l.length) : (l ++ [x]).getD k d = l.getD k d := by
  rw [List.getD_eq_getElem?_getD, List.getD_eq_getElem?_getD, List.getElem?_append_left h]
theorem getD_last {α : Type} {l : List α} {x d : α} : (l ++ [x]).getD l.length d = x := by
  rw [List.getD_eq_getElem?_getD, List.getElem?_append_right (Nat.le_refl _), Nat.sub_self]
  rfl
theorem cons_app {α : Type} {x y : α} {l pre : List α} (h : x :: l = pre ++ [y]) : (pre = [] ∧ x = y ∧ l = []) ∨ ∃ pre', pre = x :: pre' ∧ l = pre' ++ [y] := by
  cases pre with
  | nil =>
    rw [List.nil_append] at h
    injection h with h1 h2
    exact .inl ⟨rfl, h1, h2⟩
  | cons z pre =>
    rw [List.cons_append] at h
    injection h with h1 h2
    exact .inr ⟨pre, by rw [h1], h2⟩
theorem meas_le {t : Tr} {left left' : List (Nat × Bool)} {rows rows' : Tr} {own own' : List (Nat × Nat)} {c : Nat × Bool} (hl : left = c :: left') (h : ∀ x, ownAt own' x = none → (x, true) ∉ left' → ownAt own x = none ∧ (x, true) ∉ left) : measP t ⟨left', rows', own'⟩ < measP t ⟨left, rows, own⟩ := by
  have : cntP t left' own' ≤ cntP t left own := List.countP_mono_left fun x _ hx => by
    simp only [Bool.and_eq_true, Option.isNone_iff_eq_none, Bool.not_eq_true', decide_eq_false_iff_not] at hx ⊢
    exact h x hx.1 hx.2
  show left'.length + 4 * cntP t left' own' < left.length + 4 * cntP t left own
  have e : left.length = left'.length + 1 := by rw [hl, List.length_cons]
  omega
theorem PInv.step {t : Tr} (ok : TrIdx t) {s : PlSt} (h : PInv t s) (hl : s.left ≠ []) : PInv t (stepP t s) ∧ measP t (stepP t s) < measP t s := by
  obtain ⟨left0, rows, own⟩ := s
  cases left0 with
  | nil => exact absurd rfl hl
  | cons p left =>
  obtain ⟨a, b⟩ := p
  have la : a < t.length := h.stk (a, b) List.mem_cons_self
  have er0 := List.getElem?_eq_getElem la
  obtain ⟨r, er⟩ : ∃ r, t[a]? = some r := ⟨_, er0⟩
  clear er0
  have ra := rowAt_eq er
  have rix := ok a r er
  have hbase := h.base.resolve_right fun z => nomatch z.1
  obtain ⟨pre, b', ebase, hpre, hsz, hroot⟩ := hbase
  replace ebase : (a, b) :: left = pre ++ [(t.length - 1, b')] := ebase
  replace hroot : ownAt own (t.length - 1) = none := hroot
  have ordt := List.pairwise_cons.1 h.ord
  by_cases c1 : (ownAt own a).isSome = true
  · -- it is there
    have es : stepP t ⟨(a, b) :: left, rows, own⟩ = ⟨left, rows, own⟩ := by
      show (if (ownAt own a).isSome = true then _ else _) = _
      rw [if_pos c1]
    rw [es]
    refine ⟨⟨fun p hp => h.stk p (List.mem_cons_of_mem _ hp), ordt.2, fun above below x e n hn => ?_, h.ownl, h.ownd, h.few, h.nd, h.idx, h.name, h.same, h.rowl, ?_⟩, meas_le rfl fun x h1 h2 => ⟨h1, fun z => ?_⟩⟩
    · replace e : left = above ++ (x, true) :: below := e
      rcases h.part ((a, b) :: above) below x (by show (a, b) :: left = _; rw [e]; rfl) n hn with z | ⟨b2, z⟩
      · exact .inl z
      · rcases List.mem_cons.1 z with z | z
        · have : n.toNat = a := congrArg Prod.fst z
          exact .inl (by rw [this]; exact c1)
        · exact .inr ⟨b2, z⟩
    · rcases cons_app ebase with ⟨_, e, _⟩ | ⟨pre', rfl, e⟩
      · have : a = t.length - 1 := congrArg Prod.fst e
        rw [this, hroot] at c1
        cases c1
      · exact .inl ⟨pre', b', e, fun p hp => hpre p (List.mem_cons_of_mem _ hp), hsz, hroot⟩
    · rcases List.mem_cons.1 z with z | z
      · have : x = a := congrArg Prod.fst z
        rw [this] at h1
        rw [h1] at c1
        cases c1
      · exact h2 z
  have own0 : ownAt own a = none := by
    cases c : ownAt own a with
    | none => rfl
    | some k => rw [c] at c1; exact absurd rfl c1
  cases b with
  | false =>
    -- its parts first
    have es : stepP t ⟨(a, false) :: left, rows, own⟩ = ⟨r.2.map (fun n => (n.toNat, false)) ++ (a, true) :: left, rows, own⟩ := by
      show (if (ownAt own a).isSome = true then _ else if false = true then _ else _) = _
      rw [if_neg c1, if_neg Bool.false_ne_true, ra]
    rw [es]
    have pin : ∀ p ∈ r.2.map (fun n : Int => (n.toNat, false)), p.2 = false ∧ p.1 < a ∧ szT t p.1 < szT t a := fun p hp => by
      obtain ⟨n, hn, rfl⟩ := List.mem_map.1 hp
      have := rix.2 n hn
      exact ⟨rfl, show n.toNat < a by omega, sz_part ok er hn⟩
    refine ⟨⟨fun p hp => ?_, ?_, fun above below x e n hn => ?_, h.ownl, h.ownd, h.few, h.nd, h.idx, h.name, h.same, h.rowl, ?_⟩, ?_⟩
    · rcases List.mem_append.1 hp with hp | hp
      · have := (pin p hp).2.1
        omega
      · rcases List.mem_cons.1 hp with rfl | hp
        · exact la
        · exact h.stk p (List.mem_cons_of_mem _ hp)
    · refine List.pairwise_append.2 ⟨?_, List.pairwise_cons.2 ⟨fun q hq hq2 => ordt.1 q hq hq2, ordt.2⟩, fun p hp q hq hq2 => ?_⟩
      · refine List.Pairwise.imp_of_mem (R := fun _ _ => True) (fun {p q} _ hq _ hq2 => ?_) (List.pairwise_of_forall_mem_list fun _ _ _ _ => trivial)
        rw [(pin q hq).1] at hq2
        cases hq2
      · have := (pin p hp).2.1
        rcases List.mem_cons.1 hq with rfl | hq
        · exact this
        · have := ordt.1 q hq hq2
          replace this : a < q.1 := this
          omega
    · replace e : r.2.map (fun n => (n.toNat, false)) ++ (a, true) :: left = above ++ (x, true) :: below := e
      have first : ∀ c' : List (Nat × Bool), above = r.2.map (fun n => (n.toNat, false)) ++ c' → (a, true) :: left = c' ++ (x, true) :: below → (ownAt own n.toNat).isSome = true ∨ ∃ b, (n.toNat, b) ∈ above := by
        intro c' ea e2
        cases c' with
        | nil =>
          rw [List.nil_append] at e2
          injection e2 with e2 _
          have : a = x := congrArg Prod.fst e2
          subst this
          rw [ra] at hn
          exact .inr ⟨false, by rw [ea, List.append_nil]; exact List.mem_map.2 ⟨n, hn, rfl⟩⟩
        | cons q c' =>
          rw [List.cons_append] at e2
          injection e2 with e2 e3
          rcases h.part ((a, false) :: c') below x (by show (a, false) :: left = _; rw [e3]; rfl) n hn with z | ⟨b2, z⟩
          · exact .inl z
          · rcases List.mem_cons.1 z with z | z
            · have : n.toNat = a := congrArg Prod.fst z
              exact .inr ⟨true, by rw [ea, this, ← e2]; exact List.mem_append_right _ List.mem_cons_self⟩
            · exact .inr ⟨b2, by rw [ea]; exact List.mem_append_right _ (List.mem_cons_of_mem _ z)⟩
      rcases List.append_eq_append_iff.1 e with ⟨c', e1, e2⟩ | ⟨c', e1, e2⟩
      · exact first c' e1 e2
      · cases c' with
        | nil =>
          rw [List.append_nil] at e1
          rw [List.nil_append] at e2
          exact first [] (by rw [e1, List.append_nil]) (by rw [List.nil_append]; exact e2.symm)
        | cons q c' =>
          rw [List.cons_append] at e2
          injection e2 with e2 _
          have := (pin q (by rw [e1]; exact List.mem_append_right _ List.mem_cons_self)).1
          rw [← e2] at this
          cases this
    · rcases cons_app ebase with ⟨_, e, e2⟩ | ⟨pre', rfl, e⟩
      · have ea : a = t.length - 1 := congrArg Prod.fst e
        refine .inl ⟨r.2.map (fun n => (n.toNat, false)), true, ?_, fun p hp => ?_, hsz, hroot⟩
        · show _ ++ (a, true) :: left = _
          rw [e2, ea]
        · rw [← ea]
          exact (pin p hp).2.2
      · have sa := hpre (a, false) List.mem_cons_self
        refine .inl ⟨r.2.map (fun n => (n.toNat, false)) ++ (a, true) :: pre', b', ?_, fun p hp => ?_, hsz, hroot⟩
        · show _ ++ (a, true) :: left = _
          rw [e, List.append_assoc]
          rfl
        · rcases List.mem_append.1 hp with hp | hp
          · exact Int.lt_trans (pin p hp).2.2 sa
          · rcases List.mem_cons.1 hp with rfl | hp
            · exact sa
            · exact hpre p (List.mem_cons_of_mem _ hp)
    · have lp : (r.2.map (fun n : Int => (n.toNat, false))).length ≤ 2 := by rw [List.length_map]; exact rix.1
      have : cntP t (r.2.map (fun n : Int => (n.toNat, false)) ++ (a, true) :: left) own < cntP t ((a, false) :: left) own := countP_lt (l := List.range t.length) (a := a) (p := fun x => (ownAt own x).isNone && !decide ((x, true) ∈ (a, false) :: left)) (q := fun x => (ownAt own x).isNone && !decide ((x, true) ∈ r.2.map (fun n : Int => (n.toNat, false)) ++ (a, true) :: left)) (fun x hx => by
        simp only [Bool.and_eq_true, Option.isNone_iff_eq_none, Bool.not_eq_true', decide_eq_false_iff_not] at hx ⊢
        refine ⟨hx.1, fun z => hx.2 (List.mem_append_right _ (List.mem_cons_of_mem _ ?_))⟩
        rcases List.mem_cons.1 z with z | z
        · cases z
        · exact z) (List.mem_range.2 la) (by
        simp only [Bool.and_eq_true, Option.isNone_iff_eq_none, Bool.not_eq_true', decide_eq_false_iff_not]
        refine ⟨own0, fun z => ?_⟩
        rcases List.mem_cons.1 z with z | z
        · cases z
        · exact Nat.lt_irrefl _ (ordt.1 (a, true) z rfl)) (by
        have : decide ((a, true) ∈ r.2.map (fun n : Int => (n.toNat, false)) ++ (a, true) :: left) = true := decide_eq_true (List.mem_append_right _ List.mem_cons_self)
        simp only [this, Bool.not_true, Bool.and_false])
      show (r.2.map (fun n : Int => (n.toNat, false)) ++ (a, true) :: left).length + 4 * cntP t (r.2.map (fun n : Int => (n.toNat, false)) ++ (a, true) :: left) own < ((a, false) :: left).length + 4 * cntP t ((a, false) :: left) own
      rw [List.length_append, List.length_cons, List.length_cons]
      omega
  | true =>
    have hparts : ∀ n ∈ r.2, ∃ k, ownAt own n.toNat = some k ∧ (n.toNat, k) ∈ own ∧ k < rows.length := fun n hn => by
      rcases h.part [] left a rfl n (by rw [ra]; exact hn) with z | ⟨_, z⟩
      · obtain ⟨k, hk⟩ := Option.isSome_iff_exists.1 z
        exact ⟨k, hk, ownAt_mem hk, (h.ownl _ (ownAt_mem hk)).2⟩
      · cases z
    obtain ⟨m, em⟩ : ∃ m, m = markOf t own a := ⟨_, rfl⟩
    have em2 : m = (r.1, r.2.map fun n => (((ownAt own n.toNat).getD 0 : Nat) : Int)) := by rw [em]; unfold markOf; rw [ra]
    have hval : ∀ (β : Type) (d : β) (f : Str → List β → β), f m.1 (m.2.map fun n => (foldV d f rows).getD n.toNat d) = f r.1 (r.2.map fun n => (foldV d f t).getD n.toNat d) := fun β d f => by
      rw [em2]
      show f r.1 ((r.2.map fun n => (((ownAt own n.toNat).getD 0 : Nat) : Int)).map fun n => (foldV d f rows).getD n.toNat d) = _
      rw [List.map_map]
      congr 1
      refine List.map_congr_left fun n hn => ?_
      obtain ⟨k, hk, hm, _⟩ := hparts n hn
      show (foldV d f rows).getD (((ownAt own n.toNat).getD 0 : Nat) : Int).toNat d = _
      rw [hk, Option.getD_some, Int.toNat_natCast, List.getD_eq_getElem?_getD, List.getD_eq_getElem?_getD, h.same _ hm β d f]
    have mlen : m.2.length ≤ 2 := by rw [em2]; show (r.2.map _).length ≤ 2; rw [List.length_map]; exact rix.1
    have mrow : ∀ (j : Nat) (n q : Int), m.2[j]? = some n → r.2[j]? = some q → 0 ≤ q ∧ q.toNat < a ∧ 0 ≤ n ∧ n.toNat < rows.length ∧ (rowAt rows n.toNat).1 = (rowAt t q.toNat).1 := fun j n q hn hq => by
      rw [em2] at hn
      rw [List.getElem?_map, hq] at hn
      cases hn
      obtain ⟨k, hk, hm, hkl⟩ := hparts q (List.mem_of_getElem? hq)
      have := rix.2 q (List.mem_of_getElem? hq)
      show 0 ≤ q ∧ q.toNat < a ∧ (0 : Int) ≤ (((ownAt own q.toNat).getD 0 : Nat) : Int) ∧ (((ownAt own q.toNat).getD 0 : Nat) : Int).toNat < rows.length ∧ (rowAt rows (((ownAt own q.toNat).getD 0 : Nat) : Int).toNat).1 = (rowAt t q.toNat).1
      rw [hk, Option.getD_some, Int.toNat_natCast]
      exact ⟨this.1, by omega, Int.natCast_nonneg _, hkl, h.name _ hm⟩
    have mnum : ∀ n ∈ m.2, 0 ≤ n ∧ n < (rows.length : Int) := fun n hn => by
      obtain ⟨j, hj⟩ := List.mem_iff_getElem?.1 hn
      have lj := (List.getElem?_eq_some_iff.1 hj).1
      have l2 : j < r.2.length := by rw [em2] at lj; rw [List.length_map] at lj; exact lj
      have := mrow j n _ hj (List.getElem?_eq_getElem l2)
      omega
    have vt : ∀ (β : Type) (d : β) (f : Str → List β → β), (foldV d f t)[a]? = some (f m.1 (m.2.map fun n => (foldV d f rows).getD n.toNat d)) := fun β d f => by rw [hval β d f, foldV_at ok er]
    have newown : ∀ {k : Nat} (x : Nat), ownAt (own ++ [(a, k)]) x = none → ownAt own x = none ∧ x ≠ a := fun {k} x hx => by
      rw [ownAt_app] at hx
      cases c : ownAt own x with
      | some y => rw [c] at hx; cases hx
      | none =>
        rw [c] at hx
        refine ⟨rfl, fun z => ?_⟩
        rw [if_pos z.symm] at hx
        cases hx
    have stillown : ∀ {k : Nat} (x : Nat), (ownAt own x).isSome = true ∨ x = a → (ownAt (own ++ [(a, k)]) x).isSome = true := fun {k} x hx => by
      rw [ownAt_app]
      rcases hx with hx | rfl
      · obtain ⟨y, hy⟩ := Option.isSome_iff_exists.1 hx
        rw [hy]
        rfl
      · rw [own0, if_pos rfl]
        rfl
    have part' : ∀ {k : Nat} (above below : List (Nat × Bool)) (x : Nat), left = above ++ (x, true) :: below → ∀ n ∈ (rowAt t x).2, (ownAt (own ++ [(a, k)]) n.toNat).isSome = true ∨ ∃ b, (n.toNat, b) ∈ above := fun {k} above below x e n hn => by
      rcases h.part ((a, true) :: above) below x (by show (a, true) :: left = _; rw [e]; rfl) n hn with z | ⟨b2, z⟩
      · exact .inl (stillown _ (.inl z))
      · rcases List.mem_cons.1 z with z | z
        · exact .inl (stillown _ (.inr (congrArg Prod.fst z)))
        · exact .inr ⟨b2, z⟩
    have ownd' : ∀ {k : Nat}, ((own ++ [(a, k)]).map (·.1)).Nodup := fun {k} => by
      rw [List.map_append]
      refine List.nodup_append.2 ⟨h.ownd, List.nodup_cons.2 ⟨fun z => (nomatch z), List.nodup_nil⟩, fun x hx y hy => ?_⟩
      rw [List.mem_singleton.1 hy]
      intro z
      rw [z] at hx
      exact ownAt_none own0 hx
    have less : ∀ {rows' : Tr} {k : Nat}, measP t ⟨left, rows', own ++ [(a, k)]⟩ < measP t ⟨(a, true) :: left, rows, own⟩ := fun {rows' k} => meas_le rfl fun x h1 h2 => by
      obtain ⟨h3, h4⟩ := newown x h1
      refine ⟨h3, fun z => ?_⟩
      rcases List.mem_cons.1 z with z | z
      · exact h4 (congrArg Prod.fst z)
      · exact h2 z
    cases cm : markIx rows m with
    | some k =>
      have es : stepP t ⟨(a, true) :: left, rows, own⟩ = ⟨left, rows, own ++ [(a, k)]⟩ := by
        show (if (ownAt own a).isSome = true then _ else if true = true then _ else _) = _
        rw [if_neg c1, if_pos rfl, ← em, cm]
      rw [es]
      have hk := markIx_some cm
      have lk := (List.getElem?_eq_some_iff.1 hk).1
      refine ⟨⟨fun p hp => h.stk p (List.mem_cons_of_mem _ hp), ordt.2, part', fun p hp => ?_, ownd', by show rows.length ≤ (own ++ [(a, k)]).length; have := h.few; rw [List.length_append]; replace this : rows.length ≤ own.length := this; omega, h.nd, h.idx, fun p hp => ?_, fun p hp β d f => ?_, h.rowl, ?_⟩, less⟩
      · rcases List.mem_append.1 hp with hp | hp
        · exact h.ownl p hp
        · rw [List.mem_singleton.1 hp]
          exact ⟨la, lk⟩
      · rcases List.mem_append.1 hp with hp | hp
        · exact h.name p hp
        · rw [List.mem_singleton.1 hp]
          show (rowAt rows k).1 = (rowAt t a).1
          rw [rowAt_eq hk, ra, em2]
      · rcases List.mem_append.1 hp with hp | hp
        · exact h.same p hp β d f
        · rw [List.mem_singleton.1 hp]
          show (foldV d f rows)[k]? = (foldV d f t)[a]?
          rw [vt, foldV_at h.idx hk]
      · have sk : szT rows k = szT t a := by
          unfold szT
          rw [List.getD_eq_getElem?_getD, List.getD_eq_getElem?_getD, vt, foldV_at h.idx hk]
        rcases cons_app ebase with ⟨_, e, e2⟩ | ⟨pre', rfl, e⟩
        · exfalso
          have ea : a = t.length - 1 := congrArg Prod.fst e
          have := hsz k lk
          replace this : szT rows k < szT t (t.length - 1) := this
          rw [sk, ea] at this
          exact Int.lt_irrefl _ this
        · have sa := hpre (a, true) List.mem_cons_self
          refine .inl ⟨pre', b', e, fun p hp => hpre p (List.mem_cons_of_mem _ hp), hsz, ?_⟩
          show ownAt (own ++ [(a, k)]) (t.length - 1) = none
          rw [ownAt_app, hroot, if_neg fun z => ?_]
          · rfl
          · rw [z] at sa
            exact Int.lt_irrefl _ sa
    | none =>
      have es : stepP t ⟨(a, true) :: left, rows, own⟩ = ⟨left, rows ++ [m], own ++ [(a, rows.length)]⟩ := by
        show (if (ownAt own a).isSome = true then _ else if true = true then _ else _) = _
        rw [if_neg c1, if_pos rfl, ← em, cm]
      rw [es]
      have hm := markIx_none cm
      have rold : ∀ k, k < rows.length → rowAt (rows ++ [m]) k = rowAt rows k := fun k hk => getD_snoc hk
      have rnew : rowAt (rows ++ [m]) rows.length = m := getD_last
      have vnew : ∀ (β : Type) (d : β) (f : Str → List β → β), (foldV d f (rows ++ [m]))[rows.length]? = (foldV d f t)[a]? := fun β d f => by
        rw [vt, foldV_snoc, List.getElem?_append_right (by rw [foldV_len]; exact Nat.le_refl _), foldV_len, Nat.sub_self]
        rfl
      refine ⟨⟨fun p hp => h.stk p (List.mem_cons_of_mem _ hp), ordt.2, part', fun p hp => ?_, ownd', by show (rows ++ [m]).length ≤ (own ++ [(a, rows.length)]).length; have := h.few; replace this : rows.length ≤ own.length := this; rw [List.length_append, List.length_append]; simp; omega, ?_, h.idx.snoc mlen mnum, fun p hp => ?_, fun p hp β d f => ?_, fun k q hq => ?_, ?_⟩, less⟩
      · show p.1 < t.length ∧ p.2 < (rows ++ [m]).length
        rw [List.length_append, List.length_singleton]
        rcases List.mem_append.1 hp with hp | hp
        · have := h.ownl p hp
          replace this : p.1 < t.length ∧ p.2 < rows.length := this
          exact ⟨this.1, by omega⟩
        · rw [List.mem_singleton.1 hp]
          exact ⟨la, Nat.lt_succ_self _⟩
      · refine List.nodup_append.2 ⟨h.nd, List.nodup_cons.2 ⟨fun z => (nomatch z), List.nodup_nil⟩, fun x hx y hy => ?_⟩
        rw [List.mem_singleton.1 hy]
        intro z
        rw [z] at hx
        exact hm hx
      · show (rowAt (rows ++ [m]) p.2).1 = _
        rcases List.mem_append.1 hp with hp | hp
        · rw [rold _ (h.ownl p hp).2]
          exact h.name p hp
        · rw [List.mem_singleton.1 hp]
          show (rowAt (rows ++ [m]) rows.length).1 = (rowAt t a).1
          rw [rnew, ra, em2]
      · show (foldV d f (rows ++ [m]))[p.2]? = _
        rcases List.mem_append.1 hp with hp | hp
        · rw [foldV_app h.idx m (h.ownl p hp).2]
          exact h.same p hp β d f
        · rw [List.mem_singleton.1 hp]
          exact vnew β d f
      · replace hq : (rows ++ [m])[k]? = some q := hq
        show ∃ a, a < t.length ∧ q.1 = (rowAt t a).1 ∧ q.2.length = (rowAt t a).2.length ∧ ∀ (j : Nat) (n m' : Int), q.2[j]? = some n → (rowAt t a).2[j]? = some m' → 0 ≤ m' ∧ m'.toNat < a ∧ 0 ≤ n ∧ n.toNat < k ∧ (rowAt (rows ++ [m]) n.toNat).1 = (rowAt t m'.toNat).1
        by_cases c : k < rows.length
        · rw [List.getElem?_append_left c] at hq
          obtain ⟨x, x1, x2, x3, x4⟩ := h.rowl k q hq
          refine ⟨x, x1, x2, x3, fun j n m' hn hm' => ?_⟩
          obtain ⟨y1, y2, y3, y4, y5⟩ := x4 j n m' hn hm'
          exact ⟨y1, y2, y3, y4, by rw [rold _ (by omega)]; exact y5⟩
        · rw [List.getElem?_append_right (by omega)] at hq
          have ek : k = rows.length := by
            have := (List.getElem?_eq_some_iff.1 hq).1
            rw [List.length_singleton] at this
            omega
          subst ek
          rw [Nat.sub_self] at hq
          cases hq
          refine ⟨a, la, by rw [ra, em2], by rw [ra, em2, List.length_map], fun j n m' hn hm' => ?_⟩
          rw [ra] at hm'
          obtain ⟨y1, y2, y3, y4, y5⟩ := mrow j n m' hn hm'
          exact ⟨y1, y2, y3, y4, by rw [rold _ y4]; exact y5⟩
      · rcases cons_app ebase with ⟨_, e, e2⟩ | ⟨pre', rfl, e⟩
        · have ea : a = t.length - 1 := congrArg Prod.fst e
          refine .inr ⟨e2, rows.length, ?_, ?_⟩
          · show ownAt (own ++ [(a, rows.length)]) (t.length - 1) = _
            rw [ownAt_app, hroot, if_pos ea]
            rfl
          · show _ = (rows ++ [m]).length
            rw [List.length_append, List.length_singleton]
        · have sa := hpre (a, true) List.mem_cons_self
          refine .inl ⟨pre', b', e, fun p hp => hpre p (List.mem_cons_of_mem _ hp), fun k hk => ?_, ?_⟩
          · replace hk : k < (rows ++ [m]).length := hk
            show szT (rows ++ [m]) k < _
            rw [List.length_append, List.length_singleton] at hk
            by_cases c : k < rows.length
            · have : szT (rows ++ [m]) k = szT rows k := by
                unfold szT
                rw [List.getD_eq_getElem?_getD, List.getD_eq_getElem?_getD, foldV_app h.idx m c]
              rw [this]
              exact hsz k c
            · have ek : k = rows.length := by omega
              subst ek
              have : szT (rows ++ [m]) rows.length = szT t a := by
                unfold szT
                rw [List.getD_eq_getElem?_getD, List.getD_eq_getElem?_getD, vnew]
              rw [this]
              exact sa
          · show ownAt (own ++ [(a, rows.length)]) (t.length - 1) = none
            rw [ownAt_app, hroot, if_neg fun z => ?_]
            · rfl
            · rw [z] at sa
              exact Int.lt_irrefl _ sa
end Bk
set_option Elab.async false
set_option linter.all false
set_option maxRecDepth 100000
set_option maxHeartbeats 4000000
/-! Bk42: the plain tree's loop on the heap; reversed; dicts by whole numbers. -/
namespace Bk
open PySem PySem.Spec PyProof.Rows L2
/-! ### dicts by whole numbers -/
/-! ### reversed(tuple) -/
/-! ### the plain tree's loop -/
/-- (a row's number, is it done) on a pile, its top last -/
def LfAt (H : Hp) : List (Nat × Bool) → List V → Prop
  | [], vs => vs = []
  | p :: l, vs => ∃ xs q, vs = xs ++ [.ref q] ∧ H q = some (.tup [.int (p.1 : Nat), .bl p.2]) ∧ LfAt H l xs
theorem LfAt.tk {H H' : Hp} (t : Tk H H') : ∀ {l : List (Nat × Bool)} {vs : List V}, LfAt H l vs → LfAt H' l vs
  | [], _, h => h
  | p :: l, _, ⟨xs, q, e, h1, h2⟩ => ⟨xs, q, e, t _ _ h1, LfAt.tk t h2⟩
theorem LfAt.len {H : Hp} : ∀ {l : List (Nat × Bool)} {vs : List V}, LfAt H l vs → vs.length = l.length
  | [], _, h => by rw [show _ = _ from h]; rfl
  | p :: l, _, ⟨xs, q, e, h1, h2⟩ => by rw [e, List.length_append, LfAt.len h2]; rfl
theorem LfAt.ext {H : Hp} {l : List (Nat × Bool)} {xs : List V} (h : LfAt H l xs) : ∀ {ps : List (Nat × Bool)} {acc : List V}, acc.length = ps.length → (∀ (j : Nat) (v : V), acc[j]? = some v → ∃ q p, v = .ref q ∧ ps[ps.length - 1 - j]? = some p ∧ H q = some (.tup [.int (p.1 : Nat), .bl p.2])) → LfAt H (ps ++ l) (xs ++ acc)
  | [], acc, hl, _ => by
    rw [List.eq_nil_of_length_eq_zero hl, List.append_nil]
    exact h
  | p :: ps, acc, hl, ha => by
    rw [List.length_cons] at hl
    have ne : acc ≠ [] := fun z => by rw [z] at hl; cases hl
    have e := List.dropLast_concat_getLast ne
    have hlast : acc[ps.length]? = some (acc.getLast ne) := by
      rw [List.getLast_eq_getElem, List.getElem?_eq_getElem (by omega)]
      congr 2
      omega
    obtain ⟨q, p', hq, hp, hH⟩ := ha _ _ hlast
    rw [List.length_cons, show ps.length + 1 - 1 - ps.length = 0 by omega] at hp
    cases hp
    refine ⟨xs ++ acc.dropLast, q, ?_, hH, LfAt.ext h (by rw [List.length_dropLast]; omega) fun j v hj => ?_⟩
    · rw [List.append_assoc, ← hq, e]
    · have lj : j < acc.dropLast.length := (List.getElem?_eq_some_iff.1 hj).1
      have ld : acc.dropLast.length = ps.length := by rw [List.length_dropLast]; omega
      have hj2 : acc[j]? = some v := by rw [← e, List.getElem?_append_left lj]; exact hj
      obtain ⟨q2, p2, h1, h2, h3⟩ := ha j v hj2
      refine ⟨q2, p2, h1, ?_, h3⟩
      rw [List.length_cons, show ps.length + 1 - 1 - j = (ps.length - 1 - j) + 1 by omega] at h2
      exact h2
section
variable {t : Tr} {a : Nat} {left : List (Nat × Bool)} {rows : Tr} {own : List (Nat × Nat)}
theorem stepP_there {b : Bool} {k : Nat} (h : ownAt own a = some k) : stepP t ⟨(a, b) :: left, rows, own⟩ = ⟨left, rows, own⟩ := by
  show (if (ownAt own a).isSome = true then _ else _) = _
  exact if_pos (by rw [h]; rfl)
theorem stepP_open (h : ownAt own a = none) : stepP t ⟨(a, false) :: left, rows, own⟩ = ⟨(rowAt t a).2.map (fun n => (n.toNat, false)) ++ (a, true) :: left, rows, own⟩ := by
  show (if (ownAt own a).isSome = true then _ else if false = true then _ else _) = _
  rw [if_neg (by rw [h]; exact Bool.false_ne_true), if_neg Bool.false_ne_true]
theorem stepP_old {k : Nat} (h : ownAt own a = none) (hm : markIx rows (markOf t own a) = some k) : stepP t ⟨(a, true) :: left, rows, own⟩ = ⟨left, rows, own ++ [(a, k)]⟩ := by
  show (if (ownAt own a).isSome = true then _ else if true = true then _ else _) = _
  rw [if_neg (by rw [h]; exact Bool.false_ne_true), if_pos rfl, hm]
theorem stepP_new (h : ownAt own a = none) (hm : markIx rows (markOf t own a) = none) : stepP t ⟨(a, true) :: left, rows, own⟩ = ⟨left, rows ++ [markOf t own a], own ++ [(a, rows.length)]⟩ := by
  show (if (ownAt own a).isSome = true then _ else if true = true then _ else _) = _
  rw [if_neg (by rw [h]; exact Bool.false_ne_true), if_pos rfl, hm]
end
theorem PInv.sizes {t : Tr} {s : PlSt} (h : PInv t s) : s.own.length ≤ t.length ∧ s.rows.length ≤ t.length := by
  have a : s.own.length ≤ t.length := by
    have : (s.own.map (·.1)).length ≤ (List.range t.length).length := List.Nodup.length_le_of_subset h.ownd fun x hx => by
      obtain ⟨p, hp, rfl⟩ := List.mem_map.1 hx
      exact List.mem_range.2 (h.ownl p hp).1
    rw [List.length_map, List.length_range] at this
    exact this
  exact ⟨a, Nat.le_trans h.few a⟩
end Bk
set_option Elab.async false
set_option linter.all false
set_option maxRecDepth 100000
set_option maxHeartbeats 4000000
/-! Bk43: what is printed of a tree. -/
namespace Bk
open PySem PySem.Spec PyProof.Rows L2
/-! ### trees of a wood -/
structure TrW (w : Wd) (t : Tr) : Prop where
  idx : TrIdx t
  row : ∀ (i : Nat) (row : Str × List Int), t[i]? = some row → ∃ j e, PartsAt w ([], []) t i row j e
/-! ### how long the texts are -/
theorem perm_sum {l m : List Nat} (h : l.Perm m) : l.sum = m.sum := by
  induction h with
  | nil => rfl
  | cons x _ ih => rw [List.sum_cons, List.sum_cons, ih]
  | swap x y l => rw [List.sum_cons, List.sum_cons, List.sum_cons, List.sum_cons]; omega
  | trans _ _ a b => rw [a, b]
theorem sub_sum {α : Type} [DecidableEq α] (f : α → Nat) : ∀ (bs L : List α), bs.Nodup → (∀ b ∈ bs, b ∈ L) → (bs.map f).sum ≤ (L.map f).sum
  | [], L, _, _ => Nat.zero_le _
  | b :: bs, L, nd, h => by
    have nd' := List.nodup_cons.1 nd
    have p := List.perm_cons_erase (h b List.mem_cons_self)
    rw [perm_sum (p.map f), List.map_cons, List.map_cons, List.sum_cons, List.sum_cons]
    have := sub_sum f bs (L.erase b) nd'.2 fun c hc => (List.mem_erase_of_ne (fun z => nd'.1 (by rw [← z]; exact hc))).2 (h c (List.mem_cons_of_mem _ hc))
    omega
end Bk
set_option Elab.async false
/-! Bk44: joining sign by sign; the plain tree's printing. -/
namespace Bk
open PySem PySem.Spec PyProof.Rows L2
/-! ### signs of what is printed -/
/-! ### the plain tree's end -/
theorem runP_own {t : Tr} : ∀ (n k : Nat), k < (runP t n).rows.length → ∃ a, (a, k) ∈ (runP t n).own
  | 0, k, h => absurd h (Nat.not_lt_zero _)
  | n + 1, k, h => by
    have ih := runP_own (t := t) n
    have e : runP t (n + 1) = stepP t (runP t n) := rfl
    rw [e] at h ⊢
    generalize runP t n = s at ih h
    obtain ⟨left, rows, own⟩ := s
    cases left with
    | nil => exact ih k h
    | cons p left =>
      obtain ⟨a, b⟩ := p
      cases c : ownAt own a with
      | some kk =>
        rw [stepP_there c] at h ⊢
        exact ih k h
      | none =>
        cases b with
        | false =>
          rw [stepP_open c] at h ⊢
          exact ih k h
        | true =>
          cases cm : markIx rows (markOf t own a) with
          | some q =>
            rw [stepP_old c cm] at h ⊢
            obtain ⟨x, hx⟩ := ih k h
            exact ⟨x, List.mem_append_left _ hx⟩
          | none =>
            rw [stepP_new c cm] at h ⊢
            by_cases ck : k < rows.length
            · obtain ⟨x, hx⟩ := ih k ck
              exact ⟨x, List.mem_append_left _ hx⟩
            · replace h : k < (rows ++ [markOf t own a]).length := h
              rw [List.length_append, List.length_singleton] at h
              have : k = rows.length := by omega
              subst this
              exact ⟨a, List.mem_append_right _ (List.mem_singleton.2 rfl)⟩
structure PlEnd (t r : Tr) : Prop where
  pos : 0 < r.length
  le : r.length ≤ t.length
  idx : TrIdx r
  last : ∀ (β : Type) (d : β) (f : Str → List β → β), (foldV d f r)[r.length - 1]? = (foldV d f t)[t.length - 1]?
  each : ∀ k, k < r.length → ∃ a, a < t.length ∧ ∀ (β : Type) (d : β) (f : Str → List β → β), (foldV d f r)[k]? = (foldV d f t)[a]?
theorem PInv.fin {t : Tr} {n : Nat} (h : PInv t (runP t n)) (hl : (runP t n).left = []) : PlEnd t (runP t n).rows := by
  rcases h.base with ⟨pre, b, e, _⟩ | ⟨_, k, hk, e⟩
  · rw [hl] at e
    cases pre <;> cases e
  · have hm := ownAt_mem hk
    refine ⟨by omega, h.sizes.2, h.idx, fun β d f => ?_, fun j hj => ?_⟩
    · have := h.same _ hm β d f
      rw [← e, Nat.add_sub_cancel]
      exact this
    · obtain ⟨a, ha⟩ := runP_own n j hj
      exact ⟨a, (h.ownl _ ha).1, fun β d f => h.same _ ha β d f⟩
theorem PlEnd.size {t r : Tr} (h : PlEnd t r) {k : Nat} (hk : k < r.length) : ∃ a, a < t.length ∧ szT r k = szT t a := by
  obtain ⟨a, la, e⟩ := h.each k hk
  refine ⟨a, la, ?_⟩
  unfold szT
  rw [List.getD_eq_getElem?_getD, List.getD_eq_getElem?_getD, e]
end Bk
set_option Elab.async false
/-! Bk45: dict(zip(a, b, strict=True)). -/
namespace Bk
open PySem PySem.Spec PyProof.Rows L2
end Bk
set_option Elab.async false
/-! Bk46: slices of tuples from their beginning. -/
namespace Bk
open PySem PySem.Spec PyProof.Rows L2
theorem Reps.take {H : Hp} : ∀ {ds : List D} {vs : List V} (k : Nat), Reps H ds vs → Reps H (ds.take k) (vs.take k)
  | ds, vs, 0, _ => by simp only [List.take_zero, Reps]
  | [], vs, k + 1, h => by
    simp only [Reps] at h
    subst h
    simp only [List.take_nil, Reps]
  | d :: ds, vs, k + 1, h => by
    obtain ⟨v, r, rfl, hv, hr⟩ := h
    exact ⟨v, r.take k, rfl, hv, Reps.take k hr⟩
end Bk
set_option Elab.async false
/-! Bk47: dicts by marks: setdefault, len, list. -/
namespace Bk
open PySem PySem.Spec PyProof.Rows L2
end Bk
set_option Elab.async false
/-! Bk48: the plain tree as a function of the tree alone. -/
namespace Bk
open PySem PySem.Spec PyProof.Rows L2
inductive PT where
  | node (s : Str) (ps : List PT)
instance : Inhabited PT := ⟨.node "" []⟩
mutual
def goT : PT → Tr → Tr × Nat
  | .node s ps, rows =>
    let r := goL ps rows
    match markIx r.1 (s, r.2.map fun n => ((n : Nat) : Int)) with
    | some k => (r.1, k)
    | none => (r.1 ++ [(s, r.2.map fun n => ((n : Nat) : Int))], r.1.length)
def goL : List PT → Tr → Tr × List Nat
  | [], rows => (rows, [])
  | p :: ps, rows =>
    let r := goT p rows
    let r2 := goL ps r.1
    (r2.1, r.2 :: r2.2)
end
def mkI (s : Str) (ks : List Nat) : Mark := (s, ks.map fun n => ((n : Nat) : Int))
theorem goT_node {s : Str} {ps : List PT} {rows : Tr} : goT (.node s ps) rows = match markIx (goL ps rows).1 (mkI s (goL ps rows).2) with
    | some k => ((goL ps rows).1, k)
    | none => ((goL ps rows).1 ++ [mkI s (goL ps rows).2], (goL ps rows).1.length) := by
  rw [goT]
  rfl
theorem goL_cons {p : PT} {ps : List PT} {rows : Tr} : goL (p :: ps) rows = ((goL ps (goT p rows).1).1, (goT p rows).2 :: (goL ps (goT p rows).1).2) := by rw [goL]
theorem goL_nil {rows : Tr} : goL [] rows = (rows, []) := by rw [goL]
mutual
theorem goT_ext : ∀ (p : PT) (rows : Tr), ∃ e, (goT p rows).1 = rows ++ e
  | .node s ps, rows => by
    obtain ⟨e, h⟩ := goL_ext ps rows
    rw [goT_node]
    split
    · exact ⟨e, h⟩
    · exact ⟨e ++ [mkI s (goL ps rows).2], by rw [← List.append_assoc, ← h]⟩
theorem goL_ext : ∀ (ps : List PT) (rows : Tr), ∃ e, (goL ps rows).1 = rows ++ e
  | [], rows => ⟨[], by rw [goL_nil, List.append_nil]⟩
  | p :: ps, rows => by
    obtain ⟨e, h⟩ := goT_ext p rows
    obtain ⟨f, g⟩ := goL_ext ps (goT p rows).1
    rw [goL_cons]
    exact ⟨e ++ f, by show (goL ps (goT p rows).1).1 = _; rw [g, h, List.append_assoc]⟩
end
theorem markIx_app {rows e : Tr} {m : Mark} {k : Nat} (h : markIx rows m = some k) : markIx (rows ++ e) m = some k := by
  unfold markIx at h ⊢
  rw [List.findIdx?_append, h]
  rfl
theorem markIx_last {rows : Tr} {m : Mark} (h : markIx rows m = none) : markIx (rows ++ [m]) m = some rows.length := by
  unfold markIx at h ⊢
  rw [List.findIdx?_append, h]
  simp [List.findIdx?_cons]
/-- it stands there already -/
def AtT (rows : Tr) (p : PT) (k : Nat) : Prop := goT p rows = (rows, k)
def AtL (rows : Tr) (ps : List PT) (ks : List Nat) : Prop := goL ps rows = (rows, ks)
theorem app_nil {α : Type} {l e f : List α} (h : l ++ e ++ f = l) : e = [] ∧ f = [] := by
  have := congrArg List.length h
  rw [List.length_append, List.length_append] at this
  exact ⟨List.eq_nil_of_length_eq_zero (by omega), List.eq_nil_of_length_eq_zero (by omega)⟩
theorem AtT.inv {rows : Tr} {s : Str} {ps : List PT} {k : Nat} (h : AtT rows (.node s ps) k) : ∃ ks, AtL rows ps ks ∧ markIx rows (mkI s ks) = some k := by
  unfold AtT at h
  obtain ⟨e, he⟩ := goL_ext ps rows
  rw [goT_node] at h
  split at h
  · rename_i j hj
    have h1 := congrArg Prod.fst h
    have h2 := congrArg Prod.snd h
    replace h1 : (goL ps rows).1 = rows := h1
    replace h2 : j = k := h2
    refine ⟨(goL ps rows).2, ?_, ?_⟩
    · unfold AtL
      rw [Prod.ext_iff]
      exact ⟨h1, rfl⟩
    · rw [h1, h2] at hj
      exact hj
  · exfalso
    have h1 := congrArg (fun x => x.1.length) h
    replace h1 : ((goL ps rows).1 ++ [mkI s (goL ps rows).2]).length = rows.length := h1
    rw [he, List.length_append, List.length_append, List.length_singleton] at h1
    omega
theorem AtT.mk {rows : Tr} {s : Str} {ps : List PT} {ks : List Nat} {k : Nat} (h : AtL rows ps ks) (m : markIx rows (mkI s ks) = some k) : AtT rows (.node s ps) k := by
  unfold AtT AtL at *
  rw [goT_node, h]
  show (match markIx rows (mkI s ks) with | some k => (rows, k) | none => _) = _
  rw [m]
theorem AtL.inv {rows : Tr} {p : PT} {ps : List PT} {ks : List Nat} (h : AtL rows (p :: ps) ks) : ∃ k ks', ks = k :: ks' ∧ AtT rows p k ∧ AtL rows ps ks' := by
  unfold AtL at h
  rw [goL_cons] at h
  obtain ⟨e, he⟩ := goT_ext p rows
  obtain ⟨f, hf⟩ := goL_ext ps (goT p rows).1
  have h1 := congrArg Prod.fst h
  have h2 := congrArg Prod.snd h
  replace h1 : (goL ps (goT p rows).1).1 = rows := h1
  replace h2 : (goT p rows).2 :: (goL ps (goT p rows).1).2 = ks := h2
  have z := h1
  rw [hf, he] at z
  obtain ⟨z1, z2⟩ := app_nil z
  have g1 : (goT p rows).1 = rows := by rw [he, z1, List.append_nil]
  rw [g1] at h1 h2
  exact ⟨_, _, h2.symm, Prod.ext g1 rfl, Prod.ext h1 rfl⟩
theorem AtL.mk {rows : Tr} {p : PT} {ps : List PT} {k : Nat} {ks : List Nat} (h : AtT rows p k) (t : AtL rows ps ks) : AtL rows (p :: ps) (k :: ks) := by
  unfold AtT AtL at *
  rw [goL_cons, h]
  show ((goL ps rows).1, k :: (goL ps rows).2) = _
  rw [t]
mutual
theorem AtT.app : ∀ (p : PT) {rows : Tr} {k : Nat} (e : Tr), AtT rows p k → AtT (rows ++ e) p k
  | .node s ps, rows, k, e, h => by
    obtain ⟨ks, h1, h2⟩ := h.inv
    exact AtT.mk (AtL.app ps e h1) (markIx_app h2)
theorem AtL.app : ∀ (ps : List PT) {rows : Tr} {ks : List Nat} (e : Tr), AtL rows ps ks → AtL (rows ++ e) ps ks
  | [], rows, ks, e, h => by
    have : ks = [] := by
      unfold AtL at h
      rw [goL_nil] at h
      exact (congrArg Prod.snd h).symm
    subst this
    unfold AtL
    rw [goL_nil]
  | p :: ps, rows, ks, e, h => by
    obtain ⟨k, ks', rfl, h1, h2⟩ := h.inv
    exact AtL.mk (AtT.app p e h1) (AtL.app ps e h2)
end
mutual
theorem go_at : ∀ (p : PT) (rows : Tr), AtT (goT p rows).1 p (goT p rows).2
  | .node s ps, rows => by
    have ih := go_atL ps rows
    rw [goT_node]
    split
    · rename_i k hk
      exact AtT.mk ih hk
    · rename_i hk
      exact AtT.mk (AtL.app ps _ ih) (markIx_last hk)
theorem go_atL : ∀ (ps : List PT) (rows : Tr), AtL (goL ps rows).1 ps (goL ps rows).2
  | [], rows => by
    unfold AtL
    rw [goL_nil, goL_nil]
  | p :: ps, rows => by
    have h1 := go_at p rows
    have h2 := go_atL ps (goT p rows).1
    obtain ⟨f, hf⟩ := goL_ext ps (goT p rows).1
    rw [goL_cons]
    refine AtL.mk ?_ h2
    show AtT (goL ps (goT p rows).1).1 p _
    rw [hf]
    exact AtT.app p f h1
end
/-! ### the run from any state -/
def trP (t : Tr) : List PT := foldV default PT.node t
def trA (t : Tr) (a : Nat) : PT := (trP t).getD a default
theorem trA_at {t : Tr} (ok : TrIdx t) {a : Nat} {r : Str × List Int} (h : t[a]? = some r) : trA t a = .node r.1 (r.2.map fun n => trA t n.toNat) := by
  unfold trA trP
  rw [List.getD_eq_getElem?_getD, foldV_at ok h]
  rfl
inductive StepsP (t : Tr) : PlSt → PlSt → Prop where
  | refl (s) : StepsP t s s
  | step {s u} : StepsP t (stepP t s) u → StepsP t s u
theorem StepsP.trans {t : Tr} {a b c : PlSt} (h : StepsP t a b) (g : StepsP t b c) : StepsP t a c := by
  induction h with
  | refl => exact g
  | step _ ih => exact .step (ih g)
def OwnOk (t : Tr) (rows : Tr) (own : List (Nat × Nat)) : Prop := ∀ a k, ownAt own a = some k → AtT rows (trA t a) k
theorem ownAt_snoc {own : List (Nat × Nat)} {a k : Nat} (h : ownAt own a = none) : ownAt (own ++ [(a, k)]) a = some k := by
  rw [ownAt_app, h, if_pos rfl]
  rfl
/-- what one tree's part of the run does -/
structure Does (t : Tr) (rows : Tr) (own : List (Nat × Nat)) (rows' : Tr) (own' : List (Nat × Nat)) (b : Nat) : Prop where
  ok : OwnOk t rows' own'
  keep : ∀ a k, ownAt own a = some k → ownAt own' a = some k
  low : ∀ a k, ownAt own' a = some k → ownAt own a = some k ∨ a < b
theorem Does.refl {t rows : Tr} {own : List (Nat × Nat)} (h : OwnOk t rows own) (b : Nat) : Does t rows own rows own b := ⟨h, fun _ _ z => z, fun _ _ z => .inl z⟩
theorem Does.trans {t r1 r2 r3 : Tr} {o1 o2 o3 : List (Nat × Nat)} {b : Nat} (h : Does t r1 o1 r2 o2 b) (g : Does t r2 o2 r3 o3 b) : Does t r1 o1 r3 o3 b := ⟨g.ok, fun a k z => g.keep a k (h.keep a k z), fun a k z => by
  rcases g.low a k z with z | z
  · exact h.low a k z
  · exact .inr z⟩
theorem Does.le {t r1 r2 : Tr} {o1 o2 : List (Nat × Nat)} {b c : Nat} (h : Does t r1 o1 r2 o2 b) (l : b ≤ c) : Does t r1 o1 r2 o2 c := ⟨h.ok, h.keep, fun a k z => (h.low a k z).imp id fun z => Nat.lt_of_lt_of_le z l⟩
theorem run_list {t : Tr} {b : Nat} (one : ∀ (a : Nat) (left : List (Nat × Bool)) (rows : Tr) (own : List (Nat × Nat)), a < b → OwnOk t rows own → ∃ own', StepsP t ⟨(a, false) :: left, rows, own⟩ ⟨left, (goT (trA t a) rows).1, own'⟩ ∧ ownAt own' a = some (goT (trA t a) rows).2 ∧ Does t rows own (goT (trA t a) rows).1 own' (a + 1)) :
    ∀ (ns : List Int) (left : List (Nat × Bool)) (rows : Tr) (own : List (Nat × Nat)), (∀ n ∈ ns, n.toNat < b) → OwnOk t rows own →
      ∃ own', StepsP t ⟨ns.map (fun n => (n.toNat, false)) ++ left, rows, own⟩ ⟨left, (goL (ns.map fun n => trA t n.toNat) rows).1, own'⟩ ∧ ns.map (fun n => ownAt own' n.toNat) = (goL (ns.map fun n => trA t n.toNat) rows).2.map some ∧ Does t rows own (goL (ns.map fun n => trA t n.toNat) rows).1 own' b
  | [], left, rows, own, _, ok => ⟨own, by simp only [List.map_nil, goL_nil]; exact .refl _, by simp only [List.map_nil, goL_nil], by simp only [List.map_nil, goL_nil]; exact Does.refl ok b⟩
  | n :: ns, left, rows, own, hb, ok => by
    obtain ⟨o1, s1, a1, d1⟩ := one n.toNat (ns.map (fun n => (n.toNat, false)) ++ left) rows own (hb n List.mem_cons_self) ok
    obtain ⟨o2, s2, a2, d2⟩ := run_list one ns left (goT (trA t n.toNat) rows).1 o1 (fun m hm => hb m (List.mem_cons_of_mem _ hm)) d1.ok
    have hn := hb n List.mem_cons_self
    simp only [List.map_cons, goL_cons]
    refine ⟨o2, s1.trans s2, ?_, (d1.le (by omega)).trans d2⟩
    show ownAt o2 n.toNat :: _ = some _ :: _
    rw [d2.keep _ _ a1, a2]
theorem run_one {t : Tr} (ok : TrIdx t) : ∀ (b a : Nat) (left : List (Nat × Bool)) (rows : Tr) (own : List (Nat × Nat)), a < b → a < t.length → OwnOk t rows own →
    ∃ own', StepsP t ⟨(a, false) :: left, rows, own⟩ ⟨left, (goT (trA t a) rows).1, own'⟩ ∧ ownAt own' a = some (goT (trA t a) rows).2 ∧ Does t rows own (goT (trA t a) rows).1 own' (a + 1)
  | 0, a, _, _, _, h, _, _ => absurd h (Nat.not_lt_zero _)
  | b + 1, a, left, rows, own, hab, la, okk => by
    cases c : ownAt own a with
    | some k =>
      have h := okk a k c
      unfold AtT at h
      rw [h]
      exact ⟨own, .step (by rw [stepP_there c]; exact .refl _), c, Does.refl okk _⟩
    | none =>
      obtain ⟨r, er⟩ : ∃ r, t[a]? = some r := ⟨_, List.getElem?_eq_getElem la⟩
      have ra := rowAt_eq er
      have rix := ok a r er
      obtain ⟨o1, s1, a1, d1⟩ := run_list (t := t) (b := a) (fun a' left' rows' own' h1 h2 => run_one ok b a' left' rows' own' (by omega) (by omega) h2) r.2 ((a, true) :: left) rows own (fun n hn => by have := rix.2 n hn; omega) okk
      have n1 : ownAt o1 a = none := by
        cases z : ownAt o1 a with
        | none => rfl
        | some k =>
          rcases d1.low a k z with z | z
          · rw [c] at z
            cases z
          · exact absurd z (Nat.lt_irrefl _)
      have et := trA_at ok er
      have ms : markOf t o1 a = mkI r.1 (goL (r.2.map fun n => trA t n.toNat) rows).2 := by
        unfold markOf mkI
        rw [ra]
        refine Prod.ext rfl ?_
        show r.2.map (fun n => (((ownAt o1 n.toNat).getD 0 : Nat) : Int)) = _
        have := congrArg (List.map fun x : Option Nat => ((x.getD 0 : Nat) : Int)) a1
        rw [List.map_map, List.map_map] at this
        exact this
      have st : StepsP t ⟨(a, false) :: left, rows, own⟩ ⟨(a, true) :: left, (goL (r.2.map fun n => trA t n.toNat) rows).1, o1⟩ := .step (by rw [stepP_open c, ra]; exact s1)
      rw [et, goT_node]
      have hk := go_at (trA t a) rows
      rw [et, goT_node] at hk
      cases cm : markIx (goL (r.2.map fun n => trA t n.toNat) rows).1 (mkI r.1 (goL (r.2.map fun n => trA t n.toNat) rows).2) with
      | some k =>
        rw [cm] at hk
        refine ⟨o1 ++ [(a, k)], st.trans (.step (by rw [stepP_old n1 (by rw [ms]; exact cm)]; exact .refl _)), ownAt_snoc n1, fun x k' hx => ?_, fun x k' hx => ?_, fun x k' hx => ?_⟩
        · rw [ownAt_app] at hx
          cases z : ownAt o1 x with
          | some y => rw [z] at hx; cases hx; exact d1.ok x k' z
          | none =>
            rw [z] at hx
            by_cases e : a = x
            · rw [if_pos e] at hx
              cases hx
              subst e
              rw [et]
              exact hk
            · rw [if_neg e] at hx
              cases hx
        · rw [ownAt_app, d1.keep x k' hx]
          rfl
        · rw [ownAt_app] at hx
          cases z : ownAt o1 x with
          | some y =>
            rw [z] at hx
            cases hx
            rcases d1.low x k' z with z | z
            · exact .inl z
            · exact .inr (Nat.lt_succ_of_lt z)
          | none =>
            rw [z] at hx
            by_cases e : a = x
            · exact .inr (by omega)
            · rw [if_neg e] at hx
              cases hx
      | none =>
        rw [cm] at hk
        refine ⟨o1 ++ [(a, (goL (r.2.map fun n => trA t n.toNat) rows).1.length)], st.trans (.step (by rw [stepP_new n1 (by rw [ms]; exact cm), ms]; exact .refl _)), ownAt_snoc n1, fun x k' hx => ?_, fun x k' hx => ?_, fun x k' hx => ?_⟩
        · rw [ownAt_app] at hx
          cases z : ownAt o1 x with
          | some y => rw [z] at hx; cases hx; exact AtT.app _ _ (d1.ok x k' z)
          | none =>
            rw [z] at hx
            by_cases e : a = x
            · rw [if_pos e] at hx
              cases hx
              subst e
              rw [et]
              exact hk
            · rw [if_neg e] at hx
              cases hx
        · rw [ownAt_app, d1.keep x k' hx]
          rfl
        · rw [ownAt_app] at hx
          cases z : ownAt o1 x with
          | some y =>
            rw [z] at hx
            cases hx
            rcases d1.low x k' z with z | z
            · exact .inl z
            · exact .inr (Nat.lt_succ_of_lt z)
          | none =>
            rw [z] at hx
            by_cases e : a = x
            · exact .inr (by omega)
            · rw [if_neg e] at hx
              cases hx
/-- the plain tree -/
def plainF (t : Tr) : Tr := (goT (trA t (t.length - 1)) []).1
theorem runP_steps {t : Tr} {u : PlSt} : ∀ {s : PlSt}, StepsP t s u → ∀ n, s = runP t n → ∃ m, n ≤ m ∧ u = runP t m := by
  intro s h
  induction h with
  | refl s => exact fun n e => ⟨n, Nat.le_refl _, e⟩
  | step _ ih =>
    intro n e
    obtain ⟨m, h1, h2⟩ := ih (n + 1) (by rw [e]; rfl)
    exact ⟨m, by omega, h2⟩
theorem runP_stays {t : Tr} {n : Nat} (h : (runP t n).left = []) : ∀ m, n ≤ m → runP t m = runP t n := by
  intro m hm
  induction m with
  | zero => have : n = 0 := by omega
            rw [this]
  | succ m ih =>
    by_cases c : n = m + 1
    · rw [c]
    · rw [show runP t (m + 1) = stepP t (runP t m) from rfl, ih (by omega)]
      generalize runP t n = s at h
      obtain ⟨l, r, o⟩ := s
      replace h : l = [] := h
      subst h
      rfl
theorem runP_ends {t : Tr} (ok : TrIdx t) (h : 0 < t.length) : ∃ m, (runP t m).left = [] ∧ (runP t m).rows = plainF t := by
  obtain ⟨o, s, _, _⟩ := run_one ok t.length (t.length - 1) [] [] [] (by omega) (by omega) (fun a k z => nomatch z)
  obtain ⟨m, _, e⟩ := runP_steps s 0 rfl
  exact ⟨m, by rw [← e], by rw [← e]; rfl⟩
end Bk
set_option Elab.async false
/-! Bk49: the unlike trees of a tree's rows; the plain tree by them. -/
namespace Bk
open PySem PySem.Spec PyProof.Rows L2
/-! ### a list or a tuple walked -/
/-! ### unlike rows -/
def unlStep (s : Tr × List Nat) (r : Str × List Int) : Tr × List Nat :=
  let m := mkI r.1 (r.2.map fun (n : Int) => s.2.getD n.toNat 0)
  match markIx s.1 m with
  | some k => (s.1, s.2 ++ [k])
  | none => (s.1 ++ [m], s.2 ++ [s.1.length])
def unlF (t : Tr) : Tr × List Nat := t.foldl unlStep ([], [])
theorem unlF_snoc {t : Tr} {r : Str × List Int} : unlF (t ++ [r]) = unlStep (unlF t) r := by
  unfold unlF
  rw [List.foldl_append]
  rfl
theorem unlF_take {t : Tr} {i : Nat} {r : Str × List Int} (h : t[i]? = some r) : unlF (t.take (i + 1)) = unlStep (unlF (t.take i)) r := by rw [take_at h, unlF_snoc]
structure Unl (t U : Tr) (num : List Nat) : Prop where
  len : num.length = t.length
  lt : ∀ (i k : Nat), num[i]? = some k → k < U.length
  nd : U.Nodup
  idx : TrIdx U
  le : U.length ≤ t.length
  same : ∀ (i k : Nat), num[i]? = some k → ∀ (β : Type) (d : β) (f : Str → List β → β), (foldV d f U)[k]? = (foldV d f t)[i]?
theorem Unl.step {t U : Tr} {num : List Nat} {r : Str × List Int} (h : Unl t U num) (ok : TrIdx (t ++ [r])) : Unl (t ++ [r]) (unlStep (U, num) r).1 (unlStep (U, num) r).2 := by
  have er : (t ++ [r])[t.length]? = some r := by rw [List.getElem?_append_right (Nat.le_refl _), Nat.sub_self]; rfl
  have rix := ok t.length r er
  obtain ⟨m, em⟩ : ∃ m, m = mkI r.1 (r.2.map fun (n : Int) => num.getD n.toNat 0) := ⟨_, rfl⟩
  have em2 : m = (r.1, (r.2.map fun (n : Int) => num.getD n.toNat 0).map fun n => ((n : Nat) : Int)) := em
  have mnum : ∀ n ∈ r.2, num[n.toNat]? = some (num.getD n.toNat 0) := fun n hn => by
    have := rix.2 n hn
    rw [List.getD_eq_getElem?_getD, List.getElem?_eq_getElem (by rw [h.len]; omega)]
    rfl
  have hval : ∀ (β : Type) (d : β) (f : Str → List β → β), f m.1 (m.2.map fun n => (foldV d f U).getD n.toNat d) = f r.1 (r.2.map fun n => (foldV d f t).getD n.toNat d) := fun β d f => by
    rw [em2]
    show f r.1 (((r.2.map fun (n : Int) => num.getD n.toNat 0).map fun n => ((n : Nat) : Int)).map fun n => (foldV d f U).getD n.toNat d) = _
    rw [List.map_map, List.map_map]
    congr 1
    refine List.map_congr_left fun n hn => ?_
    show (foldV d f U).getD ((num.getD n.toNat 0 : Nat) : Int).toNat d = _
    rw [Int.toNat_natCast, List.getD_eq_getElem?_getD (l := foldV d f U), List.getD_eq_getElem?_getD (l := foldV d f t), h.same _ _ (mnum n hn) β d f]
  have vt : ∀ (β : Type) (d : β) (f : Str → List β → β), (foldV d f (t ++ [r]))[t.length]? = some (f m.1 (m.2.map fun n => (foldV d f U).getD n.toNat d)) := fun β d f => by
    rw [hval β d f, foldV_snoc, List.getElem?_append_right (by rw [foldV_len]; exact Nat.le_refl _), foldV_len, Nat.sub_self]
    rfl
  have told : ∀ (i : Nat), i < t.length → ∀ (β : Type) (d : β) (f : Str → List β → β), (foldV d f (t ++ [r]))[i]? = (foldV d f t)[i]? := fun i hi β d f => by
    rw [foldV_snoc, List.getElem?_append_left (by rw [foldV_len]; exact hi)]
  have mlen : m.2.length ≤ 2 := by rw [em2]; show (List.map _ (List.map _ r.2)).length ≤ 2; rw [List.length_map, List.length_map]; exact rix.1
  have mrow : ∀ n ∈ m.2, 0 ≤ n ∧ n < (U.length : Int) := fun n hn => by
    rw [em2] at hn
    obtain ⟨x, hx, rfl⟩ := List.mem_map.1 hn
    obtain ⟨y, hy, rfl⟩ := List.mem_map.1 hx
    have := h.lt _ _ (mnum y hy)
    omega
  have snoc_get : ∀ {k0 i k : Nat}, (num ++ [k0])[i]? = some k → (i < t.length ∧ num[i]? = some k) ∨ (i = t.length ∧ k = k0) := fun {k0 i k} hk => by
    by_cases c : i < num.length
    · rw [List.getElem?_append_left c] at hk
      exact .inl ⟨by rw [← h.len]; exact c, hk⟩
    · rw [List.getElem?_append_right (by omega)] at hk
      have e : i = num.length := by
        have := (List.getElem?_eq_some_iff.1 hk).1
        rw [List.length_singleton] at this
        omega
      subst e
      rw [Nat.sub_self] at hk
      cases hk
      exact .inr ⟨h.len, rfl⟩
  cases cm : markIx U m with
  | some k0 =>
    have es : unlStep (U, num) r = (U, num ++ [k0]) := by
      show (match markIx U (mkI r.1 (r.2.map fun (n : Int) => num.getD n.toNat 0)) with | some k => (U, num ++ [k]) | none => (U ++ [mkI r.1 (r.2.map fun (n : Int) => num.getD n.toNat 0)], num ++ [U.length])) = _
      rw [← em, cm]
    rw [es]
    have hk := markIx_some cm
    refine ⟨by rw [List.length_append, List.length_append, h.len]; rfl, fun i k hik => ?_, h.nd, h.idx, by rw [List.length_append]; have := h.le; show U.length ≤ _; omega, fun i k hik β d f => ?_⟩
    · rcases snoc_get hik with ⟨_, z⟩ | ⟨_, rfl⟩
      · exact h.lt i k z
      · exact (List.getElem?_eq_some_iff.1 hk).1
    · rcases snoc_get hik with ⟨li, z⟩ | ⟨rfl, rfl⟩
      · rw [told i li]
        exact h.same i k z β d f
      · rw [vt, foldV_at h.idx hk]
  | none =>
    have es : unlStep (U, num) r = (U ++ [m], num ++ [U.length]) := by
      show (match markIx U (mkI r.1 (r.2.map fun (n : Int) => num.getD n.toNat 0)) with | some k => (U, num ++ [k]) | none => (U ++ [mkI r.1 (r.2.map fun (n : Int) => num.getD n.toNat 0)], num ++ [U.length])) = _
      rw [← em, cm]
    rw [es]
    have hm := markIx_none cm
    refine ⟨by rw [List.length_append, List.length_append, h.len]; rfl, fun i k hik => ?_, ?_, h.idx.snoc mlen mrow, by show (U ++ [m]).length ≤ _; rw [List.length_append, List.length_append]; have := h.le; simp; omega, fun i k hik β d f => ?_⟩
    · show k < (U ++ [m]).length
      rw [List.length_append, List.length_singleton]
      rcases snoc_get hik with ⟨_, z⟩ | ⟨_, rfl⟩
      · have := h.lt i k z
        omega
      · omega
    · refine List.nodup_append.2 ⟨h.nd, List.nodup_cons.2 ⟨fun z => (nomatch z), List.nodup_nil⟩, fun x hx y hy => ?_⟩
      rw [List.mem_singleton.1 hy]
      intro z
      rw [z] at hx
      exact hm hx
    · show (foldV d f (U ++ [m]))[k]? = _
      rcases snoc_get hik with ⟨li, z⟩ | ⟨rfl, rfl⟩
      · rw [told i li, foldV_app h.idx m (h.lt i k z)]
        exact h.same i k z β d f
      · rw [vt, foldV_snoc, List.getElem?_append_right (by rw [foldV_len]; exact Nat.le_refl _), foldV_len, Nat.sub_self]
        rfl
theorem Unl.of {t : Tr} (ok : TrIdx t) : ∀ i, i ≤ t.length → Unl (t.take i) (unlF (t.take i)).1 (unlF (t.take i)).2
  | 0, _ => by
    rw [List.take_zero]
    exact ⟨rfl, fun i k h => by simp [unlF] at h, List.nodup_nil, fun i r h => by simp [unlF] at h, Nat.le_refl _, fun i k h => by simp [unlF] at h⟩
  | i + 1, hi => by
    have li : i < t.length := hi
    have er := List.getElem?_eq_getElem li
    have ih := Unl.of ok i (Nat.le_of_lt li)
    rw [unlF_take er]
    rw [take_at er]
    exact ih.step (by rw [← take_at er]; exact ok.take _)
theorem Unl.all {t : Tr} (ok : TrIdx t) : Unl t (unlF t).1 (unlF t).2 := by
  have := Unl.of ok t.length (Nat.le_refl _)
  rw [List.take_length] at this
  exact this
/-! ### unlike rows are unlike trees -/
/-- the size and other values of the plain tree -/
theorem plain_end {t : Tr} (ok : TrIdx t) (h : 0 < t.length) : PlEnd t (plainF t) := by
  obtain ⟨m, h1, h2⟩ := runP_ends ok h
  have inv : ∀ n, PInv t (runP t n) := by
    intro n
    induction n with
    | zero => exact PInv.start h
    | succ n ih =>
      by_cases c : (runP t n).left = []
      · rw [runP_stays c (n + 1) (Nat.le_succ n)]
        exact ih
      · exact (ih.step ok c).1
  rw [← h2]
  exact (inv m).fin h1
theorem runP_inv {t : Tr} (ok : TrIdx t) (h : 0 < t.length) (n : Nat) : PInv t (runP t n) := by
  induction n with
  | zero => exact PInv.start h
  | succ n ih =>
    by_cases c : (runP t n).left = []
    · rw [runP_stays c (n + 1) (Nat.le_succ n)]
      exact ih
    · exact (ih.step ok c).1
/-! ### contracts -/
end Bk
set_option Elab.async false
/-! Bk50: the plain tree by the unlike rows; patterns laid. -/
namespace Bk
open PySem PySem.Spec PyProof.Rows L2
/-! ### the unlike trees up to the whole -/
end Bk
set_option Elab.async false
/-! Bk51: any data compared; patterns laid; what a turned tree is. -/
namespace Bk
open PySem PySem.Spec PyProof.Rows L2
/-! ### any data compared -/
mutual
def D.pd : D → PyData
  | .non => .none | .bl b => .bool b | .int i => .int i | .str s => .str s
  | .tup ds => .tuple (D.pds ds)
  | .lst ds => .list (D.pds ds)
def D.pds : List D → List PyData
  | [] => []
  | d :: ds => d.pd :: D.pds ds
end
mutual
/-- the texts are plain -/
def D.Sig : D → Prop
  | .non => True | .bl _ => True | .int _ => True
  | .str s => ∀ c ∈ s.cps.toList, c < 0x110000
  | .tup ds => D.Sigs ds
  | .lst ds => D.Sigs ds
def D.Sigs : List D → Prop
  | [] => True
  | d :: ds => d.Sig ∧ D.Sigs ds
end
mutual
def D.dep : D → Nat
  | .non => 0 | .bl _ => 0 | .int _ => 0 | .str _ => 0
  | .tup ds => D.deps ds + 1
  | .lst ds => D.deps ds + 1
def D.deps : List D → Nat
  | [] => 0
  | d :: ds => max d.dep (D.deps ds)
end
mutual
theorem D.pd_eqv : ∀ d : D, PyData.eqv d.pd d.pd = true
  | .non => rfl
  | .bl b => by cases b <;> rfl
  | .int i => by show (i == i) = true; simp
  | .str s => by show (s == s) = true; simp
  | .tup ds => D.pds_eqv ds
  | .lst ds => D.pds_eqv ds
theorem D.pds_eqv : ∀ ds : List D, PyData.eqvAll (D.pds ds) (D.pds ds) = true
  | [] => rfl
  | d :: ds => by
    show (PyData.eqv d.pd d.pd && PyData.eqvAll (D.pds ds) (D.pds ds)) = true
    rw [D.pd_eqv d, D.pds_eqv ds]
    rfl
end
mutual
theorem D.pd_dep : ∀ d : D, d.pd.depth = d.dep
  | .non => rfl
  | .bl _ => rfl
  | .int _ => rfl
  | .str _ => rfl
  | .tup ds => congrArg (· + 1) (D.pds_dep ds)
  | .lst ds => congrArg (· + 1) (D.pds_dep ds)
theorem D.pds_dep : ∀ ds : List D, PyData.depthAll (D.pds ds) = D.deps ds
  | [] => rfl
  | d :: ds => by
    show max d.pd.depth (PyData.depthAll (D.pds ds)) = max d.dep (D.deps ds)
    rw [D.pd_dep d, D.pds_dep ds]
end
mutual
theorem D.pd_lay : ∀ d : D, d.Sig → d.pd.canLay0 = true
  | .non, _ => rfl
  | .bl _, _ => rfl
  | .int _, _ => rfl
  | .str s, h => by
    show s.cps.all (· < 0x110000) = true
    rw [Array.all_eq_true']
    intro x hx
    exact decide_eq_true (h x (Array.mem_toList_iff.2 hx))
  | .tup ds, h => D.pds_lay ds h
  | .lst ds, h => D.pds_lay ds h
theorem D.pds_lay : ∀ ds : List D, D.Sigs ds → PyData.canLayAll0 (D.pds ds) = true
  | [], _ => rfl
  | d :: ds, h => by
    show (d.pd.canLay0 && PyData.canLayAll0 (D.pds ds)) = true
    rw [D.pd_lay d h.1, D.pds_lay ds h.2]
    rfl
end
mutual
theorem Rep.dp {K : PySem.W.Frag} {H : Hp} : ∀ {d : D} {v : V}, Rep H d v → Dp K H v d.pd
  | .non, v, h => by obtain rfl : v = .non := by simpa only [Rep] using h
                     exact .non
  | .bl b, v, h => by obtain rfl : v = .bl b := by simpa only [Rep] using h
                      exact .bl b
  | .int i, v, h => by obtain rfl : v = .int i := by simpa only [Rep] using h
                       exact .int i
  | .str s, v, h => by obtain rfl : v = .str s := by simpa only [Rep] using h
                       exact .str s
  | .tup ds, v, h => by
    obtain ⟨a, vs, rfl, ha, r⟩ := h
    exact .tup (sqT ha) (Reps.dps r)
  | .lst ds, v, h => by
    obtain ⟨a, vs, rfl, ha, r⟩ := h
    exact .lst (sqL ha) (Reps.dps r)
theorem Reps.dps {K : PySem.W.Frag} {H : Hp} : ∀ {ds : List D} {vs : List V}, Reps H ds vs → DpAll K H vs (D.pds ds)
  | [], vs, h => by
    obtain rfl : vs = [] := by simpa only [Reps] using h
    exact .nil
  | d :: ds, vs, h => by
    obtain ⟨v, r, rfl, hv, hr⟩ := h
    exact .cons (Rep.dp hv) (Reps.dps hr)
end
theorem D.shaped {d : D} (h : d.Sig) (k : d.dep ≤ 64) : SeqAt.shaped d.pd = true := by
  show (d.pd.canLay0 && decide (d.pd.depth ≤ 64)) = true
  rw [D.pd_lay d h, D.pd_dep, decide_eq_true k]
  rfl
/-- one thing twice is not unlike itself -/
theorem g_neSame {K : PySem.W.Frag} {H : Hp} {Q : VK} {v w : V} {d : D} (h : Rep H d v) (k : Rep H d w) (hs : d.Sig) (hd : d.dep ≤ 64) (q : Q (.bl false) H) : rNeD K v w H Q := by
  refine ⟨d.pd, d.pd, Rep.dp h, Rep.dp k, D.shaped hs hd, D.shaped hs hd, ?_⟩
  rw [D.pd_eqv]
  exact q
theorem sigs_map {α : Type} {f : α → D} {as : List α} (h : ∀ a ∈ as, (f a).Sig) : D.Sigs (as.map f) := by
  induction as with
  | nil => trivial
  | cons a as ih => exact ⟨h a List.mem_cons_self, ih fun b hb => h b (List.mem_cons_of_mem _ hb)⟩
/-! ### patterns -/
abbrev PtR := Str × (Int ⊕ List Int)
abbrev Pt := List PtR
/-! ### a pattern laid behind rows -/
theorem trIdx_snoc {t : Tr} {r : Str × List Int} (ok : TrIdx t) (h2 : r.2.length ≤ 2) (h : ∀ n ∈ r.2, 0 ≤ n ∧ n < (t.length : Int)) : TrIdx (t ++ [r]) := fun i q hq => by
  by_cases c : i < t.length
  · rw [List.getElem?_append_left c] at hq
    exact ok i q hq
  · rw [List.getElem?_append_right (by omega)] at hq
    have : i = t.length := by
      have := (List.getElem?_eq_some_iff.1 hq).1
      rw [List.length_singleton] at this
      omega
    subst this
    rw [Nat.sub_self] at hq
    cases hq
    exact ⟨h2, h⟩
/-! ### what it means -/
/-! ### a tree turned -/
end Bk
set_option Elab.async false
/-! Bk52: list.remove of any data; patterns drawn. -/
namespace Bk
open PySem PySem.Spec PyProof.Rows L2
/-! ### list.remove -/
/-! ### patterns and kinds -/
structure PtKs (w : Wd) (pk ks : List Int) (p : Pt) : Prop where
  len : ks.length = p.length
  prt : ∀ (i : Nat) (r : PtR) (k : Int), p[i]? = some r → r.2 = .inl k → r.1 = "part" ∧ 0 ≤ k ∧ k.toNat < pk.length ∧ ks[i]? = pk[k.toNat]?
  mkr : ∀ (i : Nat) (r : PtR) (ns : List Int), p[i]? = some r → r.2 = .inr ns → ∃ e, mkOf w r.1 = some e ∧ ns.length = (dueOf w e).length ∧ ks[i]? = some (e.1 : Int) ∧ ∀ (j : Nat) (n : Int), ns[j]? = some n → 0 ≤ n ∧ n.toNat < i ∧ ks[n.toNat]? = (dueOf w e)[j]?
theorem due_two {w : Wd} (ok : WoodOk w) {e : Nat × Mk} (he : e ∈ tabFrom 0 w) : (dueOf w e).length ≤ 2 := by
  obtain ⟨_, h, h2, _⟩ := dueOf_in ok he
  omega
instance : Inhabited PtR := ⟨("", .inl 0)⟩
theorem PtKs.nil {w : Wd} {pk : List Int} : PtKs w pk [] [] := ⟨rfl, fun i r k h => by simp at h, fun i r ns h => by simp at h⟩
theorem PtKs.part {w : Wd} {pk ks : List Int} {p : Pt} (h : PtKs w pk ks p) {k kd : Int} (k0 : 0 ≤ k) (k1 : k.toNat < pk.length) (hk : pk[k.toNat]? = some kd) : PtKs w pk (ks ++ [kd]) (p ++ ([(("part" : Str), Sum.inl k)] : Pt)) := by
  have l := h.len
  refine ⟨by rw [List.length_append, List.length_append, l]; rfl, fun i r x hr hx => ?_, fun i r ns hr hn => ?_⟩
  · by_cases c : i < p.length
    · rw [List.getElem?_append_left c] at hr
      rw [List.getElem?_append_left (by omega)]
      exact h.prt i r x hr hx
    · rw [List.getElem?_append_right (by omega)] at hr
      have : i = p.length := by
        have := (List.getElem?_eq_some_iff.1 hr).1
        rw [List.length_singleton] at this
        omega
      subst this
      rw [Nat.sub_self] at hr
      cases hr
      cases hx
      refine ⟨rfl, k0, k1, ?_⟩
      rw [List.getElem?_append_right (by omega), ← l, Nat.sub_self, hk]
      rfl
  · by_cases c : i < p.length
    · rw [List.getElem?_append_left c] at hr
      obtain ⟨e, h1, h2, h3, h4⟩ := h.mkr i r ns hr hn
      refine ⟨e, h1, h2, by rw [List.getElem?_append_left (by omega)]; exact h3, fun j n hj => ?_⟩
      obtain ⟨a, b, d⟩ := h4 j n hj
      exact ⟨a, b, by rw [List.getElem?_append_left (by omega)]; exact d⟩
    · rw [List.getElem?_append_right (by omega)] at hr
      have : i = p.length := by
        have := (List.getElem?_eq_some_iff.1 hr).1
        rw [List.length_singleton] at this
        omega
      subst this
      rw [Nat.sub_self] at hr
      cases hr
      cases hn
/-- each row from a on, but the last one, is named by a later one -/
def Used (a b : Nat) (p : Pt) : Prop := ∀ i, a ≤ i → i + 1 < b → ∃ (j : Nat) (r : PtR) (ns : List Int), i < j ∧ j < b ∧ p[j]? = some r ∧ r.2 = .inr ns ∧ (i : Int) ∈ ns
/-! ### rows in another order -/
structure Ord (p : Pt) (ord : List Nat) : Prop where
  nd : ord.Nodup
  lt : ∀ a ∈ ord, a < p.length
  top : ∀ (j a : Nat) (r : PtR) (ns : List Int), ord[j]? = some a → p[a]? = some r → r.2 = .inr ns → ∀ n ∈ ns, n.toNat ∈ ord.take j
theorem idxOf_take {l : List Nat} {a j : Nat} (h : a ∈ l.take j) : l.idxOf a < j ∧ l[l.idxOf a]? = some a ∧ (l.take j).idxOf a = l.idxOf a := by
  have e : l.idxOf a = (l.take j).idxOf a := by
    have := List.idxOf_append (l₁ := l.take j) (l₂ := l.drop j) (a := a)
    rw [List.take_append_drop, if_pos h] at this
    exact this
  have l1 := List.idxOf_lt_length_of_mem h
  have l2 : (l.take j).length ≤ j := by rw [List.length_take]; omega
  have m : a ∈ l := List.mem_of_mem_take h
  exact ⟨by omega, by rw [List.getElem?_eq_getElem (List.idxOf_lt_length_of_mem m), List.getElem_idxOf], e.symm⟩
theorem Ord.snoc {p : Pt} {ord : List Nat} {a : Nat} (h : Ord p ord) (ha : a < p.length) (hn : a ∉ ord) (ht : ∀ (r : PtR) (ns : List Int), p[a]? = some r → r.2 = .inr ns → ∀ n ∈ ns, n.toNat ∈ ord) : Ord p (ord ++ [a]) := by
  refine ⟨List.nodup_append.2 ⟨h.nd, List.nodup_cons.2 ⟨fun z => (nomatch z), List.nodup_nil⟩, fun x hx y hy => ?_⟩, fun x hx => ?_, fun j b r ns hb hr hs n hm => ?_⟩
  · rw [List.mem_singleton.1 hy]
    exact fun z => hn (z ▸ hx)
  · rcases List.mem_append.1 hx with z | z
    · exact h.lt x z
    · rw [List.mem_singleton.1 z]
      exact ha
  · by_cases c : j < ord.length
    · rw [List.getElem?_append_left c] at hb
      rw [List.take_append_of_le_length (by omega)]
      exact h.top j b r ns hb hr hs n hm
    · rw [List.getElem?_append_right (by omega)] at hb
      have : j = ord.length := by
        have := (List.getElem?_eq_some_iff.1 hb).1
        rw [List.length_singleton] at this
        omega
      subst this
      rw [Nat.sub_self] at hb
      cases hb
      rw [List.take_left]
      exact ht r ns hr hs n hm
theorem Ord.all {p : Pt} {ord : List Nat} (h : Ord p ord) (hl : ord.length = p.length) {a : Nat} (ha : a < p.length) : a ∈ ord := by
  by_cases c : a ∈ ord
  · exact c
  · exfalso
    have := nodup_sub2 (a :: ord) (List.range p.length) (List.nodup_cons.2 ⟨c, h.nd⟩) fun x hx => by
      rcases List.mem_cons.1 hx with rfl | z
      · exact List.mem_range.2 ha
      · exact List.mem_range.2 (h.lt x z)
    rw [List.length_cons, List.length_range] at this
    omega
/-- the whole comes last -/
theorem Ord.last {p : Pt} {ord : List Nat} (o : Ord p ord) (hl : ord.length = p.length) (h0 : 0 < p.length) (u : Used 0 p.length p) : ord[p.length - 1]? = some (p.length - 1) := by
  obtain ⟨a, ha⟩ : ∃ a, ord[p.length - 1]? = some a := ⟨_, List.getElem?_eq_getElem (by omega)⟩
  rw [ha]
  have la := o.lt a (List.mem_of_getElem? ha)
  by_cases c : a + 1 < p.length
  · exfalso
    obtain ⟨j, r, ns, h1, h2, h3, h4, h5⟩ := u a (Nat.zero_le _) c
    obtain ⟨q, hq⟩ := List.mem_iff_getElem?.1 (o.all hl h2)
    have lq := (List.getElem?_eq_some_iff.1 hq).1
    have ht := o.top q j r ns hq h3 h4 _ h5
    rw [Int.toNat_natCast] at ht
    obtain ⟨t1, t2, _⟩ := idxOf_take ht
    have e1 := (List.getElem?_eq_some_iff.1 ha)
    have e2 := (List.getElem?_eq_some_iff.1 t2)
    obtain ⟨b1, b2⟩ := e1
    obtain ⟨d1, d2⟩ := e2
    have := (List.getElem_inj o.nd (h₀ := b1) (h₁ := d1)).1 (b2.trans d2.symm)
    omega
  · congr 1
    omega
/-! ### how great a pattern's rows are -/
end Bk
set_option Elab.async false
/-! Bk53: turners drawn, trees turned: contracts. -/
namespace Bk
open PySem PySem.Spec PyProof.Rows L2
/-- each kind has a maker of no parts first -/
def FullW (w : Wd) : Prop := ∀ k ∈ w, ∃ (m : Mk) (r : List Mk), k.2 = m :: r ∧ m.2 = []
theorem FullW.at {w : Wd} (h : FullW w) {g : Nat} (hg : g < w.length) : ∃ e ∈ tabFrom 0 w, e.1 = g ∧ e.2.2 = [] := by
  have ek := List.getElem?_eq_getElem hg
  obtain ⟨m, r, e1, e2⟩ := h w[g] (List.getElem_mem hg)
  refine ⟨(g, m), ?_, rfl, e2⟩
  have := tab_mem w 0 g w[g] m ek (by rw [e1]; exact List.mem_cons_self)
  rw [Nat.zero_add] at this
  exact this
/-- everything but three objects stands -/
def But3 (p l r : Addr) (H H' : Hp) : Prop := ∀ b o, b ≠ p → b ≠ l → b ≠ r → H b = some o → H' b = some o
theorem But3.refl {p l r : Addr} {H : Hp} : But3 p l r H H := fun _ _ _ _ _ h => h
theorem But3.trans {p l r : Addr} {H H1 H2 : Hp} (a : But3 p l r H H1) (b : But3 p l r H1 H2) : But3 p l r H H2 := fun x o h1 h2 h3 h => b x o h1 h2 h3 (a x o h1 h2 h3 h)
theorem But3.at_new {p l r d : Addr} {H H1 : Hp} {o : HO} (e : But3 p l r H H1) (n : H d = none) : But3 p l r H (upd H1 d o) := fun x u h1 h2 h3 h => by rw [upd_ne (ne_of_none h n)]; exact e x u h1 h2 h3 h
/-- three lists: all tuples stand -/
theorem But3.tk {p l r : Addr} {H H1 : Hp} {a b c : List V} (e : But3 p l r H H1) (h1 : H p = some (.lst a)) (h2 : H l = some (.lst b)) (h3 : H r = some (.lst c)) : Tk H H1 := fun x ys z =>
  e x _ (ne_of z h1 (fun y => nomatch y)) (ne_of z h2 (fun y => nomatch y)) (ne_of z h3 (fun y => nomatch y)) z
theorem Box.lst {H : Hp} {p : Addr} (h : Box H p) : ∃ xs, H p = some (.lst xs) := by
  obtain ⟨a, b, c, h⟩ := h
  exact ⟨_, h⟩
def natV (l : List Nat) : List V := (l.map fun n => ((n : Nat) : Int)).map V.int
end Bk
set_option Elab.async false
/-! Bk54: rows put in another order; things put behind others. -/
namespace Bk
open PySem PySem.Spec PyProof.Rows L2
theorem But3.free {p l r d : Addr} {H H1 : Hp} (e : But3 p l r H H1) {a b c : HO} (hp : H1 p = some a) (hl : H1 l = some b) (hr : H1 r = some c) (n : H1 d = none) : H d = none := by
  cases h : H d with
  | none => rfl
  | some o =>
    have := e d o (fun z => by rw [z, hp] at n; cases n) (fun z => by rw [z, hl] at n; cases n) (fun z => by rw [z, hr] at n; cases n) h
    rw [n] at this
    cases this
end Bk
set_option Elab.async false
/-! Bk55: full woods. -/
namespace Bk
open PySem PySem.Spec PyProof.Rows L2
end Bk
set_option Elab.async false
/-! Bk56: what a turned tree is like. -/
namespace Bk
open PySem PySem.Spec PyProof.Rows L2
/-- the names of the plain tree -/
theorem plain_names {t : Tr} {P : Str → Prop} (ok : TrIdx t) (h0 : 0 < t.length) (h : ∀ r ∈ t, P r.1) : ∀ r ∈ plainF t, P r.1 := fun r hr => by
  obtain ⟨m, h1, h2⟩ := runP_ends ok h0
  have inv := runP_inv ok h0 m
  rw [← h2] at hr
  obtain ⟨k, hk⟩ := List.mem_iff_getElem?.1 hr
  obtain ⟨a, la, e, _⟩ := inv.rowl k r hk
  have ea := List.getElem?_eq_getElem la
  rw [rowAt_eq ea] at e
  rw [e]
  exact h _ (List.getElem_mem la)
theorem sizesM {α : Type} {f : α → D} {k : Nat} : ∀ {as : List α}, (∀ a ∈ as, (f a).size ≤ k) → D.sizes (as.map f) ≤ k * as.length
  | [], _ => Nat.zero_le _
  | a :: as, h => by
    have h1 := h a List.mem_cons_self
    have h2 := sizesM (as := as) fun b hb => h b (List.mem_cons_of_mem _ hb)
    show (f a).size + D.sizes (as.map f) ≤ k * (as.length + 1)
    rw [Nat.mul_succ]
    omega
theorem row_size {r : Str × List Int} (h : r.2.length ≤ 2) : (rowD r).size ≤ 5 := by
  have := sizesM (f := D.int) (k := 1) (as := r.2) fun _ _ => Nat.le_refl _
  show 1 + (1 + ((1 + D.sizes (r.2.map D.int)) + 0)) ≤ 5
  omega
theorem tree_size {t : Tr} (h : TrIdx t) : (treeD t).size ≤ 1 + 5 * t.length := by
  have := sizesM (f := rowD) (k := 5) (as := t) fun r hr => by
    obtain ⟨i, hi⟩ := List.mem_iff_getElem?.1 hr
    exact row_size (h i r hi).1
  show 1 + D.sizes (t.map rowD) ≤ _
  omega
end Bk
set_option Elab.async false
/-! Bk57: a turned tree is a tree of the second wood, and how great it is. -/
namespace Bk
open PySem PySem.Spec PyProof.Rows L2
theorem snoc_at {α : Type} {l : List α} {x y : α} {i : Nat} (h : (l ++ [x])[i]? = some y) : (i < l.length ∧ l[i]? = some y) ∨ (i = l.length ∧ x = y) := by
  by_cases c : i < l.length
  · rw [List.getElem?_append_left c] at h
    exact .inl ⟨c, h⟩
  · rw [List.getElem?_append_right (by omega)] at h
    have : i = l.length := by
      have := (List.getElem?_eq_some_iff.1 h).1
      rw [List.length_singleton] at this
      omega
    subst this
    rw [Nat.sub_self] at h
    cases h
    exact .inr ⟨rfl, rfl⟩
theorem TrW.snoc {w : Wd} {t : Tr} {row : Str × List Int} {e : Nat × Mk} (h : TrW w t) (ok : WoodOk w) (he : mkOf w row.1 = some e) (hl : row.2.length = (dueOf w e).length) (hn : ∀ (u : Nat) (n : Int), row.2[u]? = some n → 0 ≤ n ∧ n < (t.length : Int) ∧ (dueOf w e)[u]? = some (kindAt w (rowAt t n.toNat).1)) : TrW w (t ++ [row]) := by
  have two := due_two ok (mkOf_some he).1
  refine ⟨trIdx_snoc h.idx (by omega) fun n hm => ?_, fun i r hi => ?_⟩
  · obtain ⟨u, hu⟩ := List.mem_iff_getElem?.1 hm
    obtain ⟨a, b, _⟩ := hn u n hu
    exact ⟨a, b⟩
  · rcases snoc_at hi with ⟨li, hi'⟩ | ⟨rfl, rfl⟩
    · obtain ⟨j, e, pa⟩ := h.row i r hi'
      refine ⟨j, e, pa.tab, pa.nm, pa.len, pa.two, fun u n hu => ?_, pa.kind⟩
      obtain ⟨a, b, q, hq, hd⟩ := pa.idx u n hu
      exact ⟨a, b, q, by rw [List.getElem?_append_left (by omega)]; exact hq, hd⟩
    · obtain ⟨m1, m2⟩ := mkOf_some he
      obtain ⟨j, hj⟩ := List.mem_iff_getElem?.1 m1
      refine ⟨j, e, hj, m2, hl, by omega, fun u n hu => ?_, by unfold kindAt; rw [he]⟩
      obtain ⟨a, b, c⟩ := hn u n hu
      have en := List.getElem?_eq_getElem (l := t) (i := n.toNat) (by omega)
      rw [rowAt_eq en] at c
      exact ⟨a, b, t[n.toNat], by rw [List.getElem?_append_left (by omega)]; exact en, c⟩
end Bk
set_option Elab.async false
/-! Bk58: printers behind turners. -/
namespace Bk
open PySem PySem.Spec PyProof.Rows L2
/-! ### values of trees as such -/
section
variable {β : Type}
mutual
def evT (f : Str → List β → β) : PT → β
  | .node s ps => f s (evL f ps)
def evL (f : Str → List β → β) : List PT → List β
  | [] => []
  | p :: ps => evT f p :: evL f ps
end
theorem evL_map (f : Str → List β → β) : ∀ ps : List PT, evL f ps = ps.map (evT f)
  | [] => by rw [evL]; rfl
  | p :: ps => by rw [evL, evL_map f ps]; rfl
theorem evT_node (f : Str → List β → β) (s : Str) (ps : List PT) : evT f (.node s ps) = f s (ps.map (evT f)) := by rw [evT, evL_map]
end
/-! ### texts put together -/
end Bk
set_option Elab.async false
/-! Bk59: what a printer behind a turner is, and what it prints. -/
namespace Bk
open PySem PySem.Spec PyProof.Rows L2
/-! ### what it prints -/
end Bk
set_option Elab.async false
/-! Bk60: the printer behind fits; contracts. -/
namespace Bk
open PySem PySem.Spec PyProof.Rows L2
/-! ### a printer's rows -/
end Bk
set_option Elab.async false
/-! Bk61: printers behind turners: contracts, lists told anew. -/
namespace Bk
open PySem PySem.Spec PyProof.Rows L2
/-! ### o[i] += text -/
/-! ### what stands on no older list -/
def nw (H0 H : Hp) : Hp := fun a => match H0 a with
  | some (.lst _) => none
  | _ => H a
theorem nw_at {H0 H : Hp} {a : Addr} (h : ∀ xs, H0 a ≠ some (.lst xs)) : nw H0 H a = H a := by
  unfold nw
  split
  · rename_i xs e
    exact absurd e (h xs)
  · rfl
theorem nw_ne {H0 H : Hp} {a : Addr} {o : HO} (h : nw H0 H a = some o) : (∀ xs, H0 a ≠ some (.lst xs)) ∧ H a = some o := by
  unfold nw at h
  split at h
  · cases h
  · rename_i hn
    exact ⟨fun xs z => hn xs z, h⟩
theorem nw_ex (H0 H : Hp) : Ex (nw H0 H) H := fun _ _ h => (nw_ne h).2
/-- what stands still but for lists of H0 -/
theorem nw_mono {H0 H H' : Hp} (k : ∀ a o, (∀ xs, H0 a ≠ some (.lst xs)) → H a = some o → H' a = some o) : Ex (nw H0 H) (nw H0 H') := fun a o h => by
  obtain ⟨h1, h2⟩ := nw_ne h
  rw [nw_at h1]
  exact k a o h1 h2
theorem nw_exm {H0 H H' : Hp} (k : Ex H H') : Ex (nw H0 H) (nw H0 H') := nw_mono fun a o _ h => k a o h
/-- from later lists to older ones -/
def Ls (H0 H : Hp) : Prop := ∀ a xs, H0 a = some (.lst xs) → ∃ ys, H a = some (.lst ys)
theorem Ls.ex {H0 H : Hp} (e : Ex H0 H) : Ls H0 H := fun a xs h => ⟨xs, e _ _ h⟩
theorem Ls.trans {H0 H1 H2 : Hp} (a : Ls H0 H1) (b : Ls H1 H2) : Ls H0 H2 := fun x xs h => by
  obtain ⟨ys, h1⟩ := a x xs h
  exact b x ys h1
theorem nw_sub {H0 H1 H : Hp} (l : Ls H0 H1) : Ex (nw H1 H) (nw H0 H) := fun a o h => by
  obtain ⟨h1, h2⟩ := nw_ne h
  rw [nw_at fun xs z => by
    obtain ⟨ys, hy⟩ := l a xs z
    exact h1 ys hy]
  exact h2
theorem But.ls {p : Addr} {H H' : Hp} {ys : List V} (e : But p H H') (h : H' p = some (.lst ys)) : Ls H H' := fun a xs z => by
  by_cases c : a = p
  · subst c
    exact ⟨ys, h⟩
  · exact ⟨xs, e a _ c z⟩
theorem nw_but {p : Addr} {H0 H H' : Hp} {xs : List V} (h0 : H0 p = some (.lst xs)) (e : But p H H') : Ex (nw H0 H) (nw H0 H') := nw_mono fun a o h1 h2 => e a o (fun z => h1 xs (z ▸ h0)) h2
theorem nw_new {H0 H : Hp} {a : Addr} {o : HO} (h0 : H0 a = none) (h : H a = some o) : nw H0 H a = some o := by
  rw [nw_at fun xs z => by rw [h0] at z; cases z]
  exact h
theorem nw_tkl {H0 H : Hp} (l : Ls H0 H) : Tk H (nw H0 H) := fun a xs h => by
  rw [nw_at fun ys z => by
    obtain ⟨zs, hz⟩ := l a ys z
    rw [h] at hz
    cases hz]
  exact h
/-! ### a comprehension whose items may be new lists -/
section
variable {J : It} {n : Nat} {G : Hp → Prop} {Y : Nat → Hp → V → Hp → Prop} {g : TG} {te : TE} {vs : List Nat} {σ : L2.St} {H1 : Hp} {D : Addr} {Qd : Hp → Prop}
theorem lc_mapX (w : Walk J n G Y) (R : Nat → Hp → V → Prop) (hn : n ≤ 16000000) (hD : H1 D = none) (hR : ∀ j H H' v, But D H H' → R j H v → R j H' v) (hG : ∀ H, Ex H1 H → G H)
    (hs : ∀ i x H H' (P : VK) (N : Hp → Prop), i < n → Ex H1 H → Ls (upd H1 D (.lst [])) H → Y i H x H' → (∀ y H4, Ex H H4 → R i H4 y → P y H4) → g x (wipe σ vs) H' fun σ2 H2 => wipe σ2 vs = wipe σ vs ∧ tYes σ2 H2 fun b H3 => if b = true then te σ2 H3 P else N H3)
    (hd : ∀ H' acc, Ex H1 H' → H' D = some (.lst acc) → acc.length = n → (∀ j v, acc[j]? = some v → R j H' v) → Qd H') :
    ∃ W : Nat → Nat → Hp → Prop, (∃ m, W 0 m (upd H1 D (.lst []))) ∧ ∀ i m H, W i m H →
      (J.stop i H ∧ Qd H) ∨ (J.go i H ∧ ∃ Nx : Hp → Prop, (∀ H', Nx H' → ∃ m', m' < m ∧ W (i + 1) m' H') ∧ ∀ x H', J.yld i H x H' → g x (wipe σ vs) H' fun σ2 H2 => wipe σ2 vs = wipe σ vs ∧ tYes σ2 H2 fun b H3 =>
        if b = true then te σ2 H3 fun y H4 => ∃ acc, H4 D = some (.lst acc) ∧ acc.length < sizeLine ∧ Nx (upd H4 D (.lst (acc ++ [y]))) else Nx H3) := by
  refine lc_it w (fun i H => Ex H1 H ∧ ∃ acc, H D = some (.lst acc) ∧ acc.length = i ∧ ∀ j v, acc[j]? = some v → R j H v) ⟨Ex.new hD, [], upd_same, rfl, fun j v z => by simp at z⟩ (fun i H _ p => hG H p.1) ?_ fun H p => ?_
  · rintro i x H H' hi ⟨e, acc, ha, hl, hr⟩ y
    have ls : Ls (upd H1 D (.lst [])) H := fun a xs z => by
      by_cases c : a = D
      · subst c
        exact ⟨acc, ha⟩
      · rw [upd_ne c] at z
        exact ⟨xs, e _ _ z⟩
    refine hs i x H H' _ _ hi e ls y fun u H4 e4 r4 => ?_
    have a4 := e4 _ _ ha
    refine ⟨acc, a4, Nat.lt_of_le_of_lt (by omega : acc.length ≤ 16000000) (by decide), (e.trans e4).at_new hD, _, upd_same, by rw [List.length_append, hl]; rfl, fun j v hj => ?_⟩
    have b5 : But D H4 (upd H4 D (.lst (acc ++ [u]))) := (But.refl D H4).upd
    by_cases c : j < acc.length
    · rw [List.getElem?_append_left c] at hj
      exact hR _ _ _ _ b5 (hR _ _ _ _ (fun b o _ z => e4 b o z) (hr j v hj))
    · rw [List.getElem?_append_right (by omega)] at hj
      have ej : j = i := by
        have := (List.getElem?_eq_some_iff.1 hj).1
        simp at this
        omega
      subst ej
      rw [hl, Nat.sub_self] at hj
      cases hj
      exact hR _ _ _ _ b5 r4
  · obtain ⟨e, acc, ha, hl, hr⟩ := p
    exact hd H acc e ha hl hr
end
/-! ### rows as lists -/
/-! ### signs -/
/-! ### contracts -/
end Bk
set_option Elab.async false
/-! Bk62: how many rows a pattern's printers have. -/
namespace Bk
open PySem PySem.Spec PyProof.Rows L2
end Bk
set_option Elab.async false
/-! Bk63: how great a printer behind is. -/
namespace Bk
open PySem PySem.Spec PyProof.Rows L2
end Bk
set_option Elab.async false
/-! Bk64: sum(.., start=k), max(.., default=k). -/
namespace Bk
open PySem PySem.Spec PyProof.Rows L2
end Bk
set_option Elab.async false
/-! Bk65: heights, sizes, the plain tree by an order of the unlike rows. -/
namespace Bk
open PySem PySem.Spec PyProof.Rows L2
def plT (p : PT) : Tr := (goT p []).1
theorem plainF_eq (t : Tr) : plainF t = plT (trA t (t.length - 1)) := rfl
theorem trA_take {t : Tr} {k a : Nat} (hk : k ≤ t.length) (ha : a < k) : trA (t.take k) a = trA t a := by
  unfold trA trP
  rw [List.getD_eq_getElem?_getD, List.getD_eq_getElem?_getD, ← foldV_pre k hk, List.getElem?_take, if_pos ha]
/-! ### heights -/
/-! ### an order of rows, each behind its parts -/
structure OrdOk (U : Tr) (ord : List Nat) : Prop where
  nd : ord.Nodup
  lt : ∀ a ∈ ord, a < U.length
  cl : ∀ (a : Nat), a ∈ ord → ∀ n ∈ (rowAt U a).2, n.toNat ∈ ord
def rowO (U : Tr) (ord : List Nat) (a : Nat) : Mark := mkI (rowAt U a).1 ((rowAt U a).2.map fun n => ord.idxOf n.toNat)
def rowsO (U : Tr) (ord : List Nat) : Tr := ord.map (rowO U ord)
theorem OrdOk.nil (U : Tr) : OrdOk U [] := ⟨List.nodup_nil, fun a z => (nomatch z), fun a z => (nomatch z)⟩
theorem OrdOk.snoc {U : Tr} {ord : List Nat} (h : OrdOk U ord) {a : Nat} (la : a < U.length) (na : a ∉ ord) (hp : ∀ n ∈ (rowAt U a).2, n.toNat ∈ ord) : OrdOk U (ord ++ [a]) := by
  refine ⟨List.nodup_append.2 ⟨h.nd, List.nodup_cons.2 ⟨fun z => (nomatch z), List.nodup_nil⟩, fun x hx y hy => ?_⟩, fun b hb => ?_, fun b hb n hn => ?_⟩
  · rw [List.mem_singleton.1 hy]
    exact fun z => na (z ▸ hx)
  · rcases List.mem_append.1 hb with z | z
    · exact h.lt b z
    · rw [List.mem_singleton.1 z]
      exact la
  · rcases List.mem_append.1 hb with z | z
    · exact List.mem_append_left _ (h.cl b z n hn)
    · rw [List.mem_singleton.1 z] at hn
      exact List.mem_append_left _ (hp n hn)
theorem idx_inj {ord : List Nat} {x y : Nat} (hx : x ∈ ord) (hy : y ∈ ord) (h : ord.idxOf x = ord.idxOf y) : x = y := by
  have a := List.getElem_idxOf (List.idxOf_lt_length_iff.2 hx)
  have b := List.getElem_idxOf (List.idxOf_lt_length_iff.2 hy)
  rw [← a, ← b]
  congr 1
theorem mk_inj {U : Tr} {ord : List Nat} {a b : Nat} (ix : TrIdx U) (nd : U.Nodup) (la : a < U.length) (lb : b < U.length) (ha : ∀ n ∈ (rowAt U a).2, n.toNat ∈ ord) (hb : ∀ n ∈ (rowAt U b).2, n.toNat ∈ ord) (h : rowO U ord a = rowO U ord b) : a = b := by
  have ea := List.getElem?_eq_getElem la
  have eb := List.getElem?_eq_getElem lb
  have ra := rowAt_eq ea
  have rb := rowAt_eq eb
  unfold rowO mkI at h
  have h1 := congrArg Prod.fst h
  have h2 := congrArg Prod.snd h
  replace h1 : (rowAt U a).1 = (rowAt U b).1 := h1
  replace h2 : ((rowAt U a).2.map fun n => ord.idxOf n.toNat).map (fun n => ((n : Nat) : Int)) = ((rowAt U b).2.map fun n => ord.idxOf n.toNat).map fun n => ((n : Nat) : Int) := h2
  rw [List.map_map, List.map_map] at h2
  have key : ∀ (l m : List Int), (∀ n ∈ l, 0 ≤ n ∧ n.toNat ∈ ord) → (∀ n ∈ m, 0 ≤ n ∧ n.toNat ∈ ord) → l.map ((fun n => ((n : Nat) : Int)) ∘ fun n => ord.idxOf n.toNat) = m.map ((fun n => ((n : Nat) : Int)) ∘ fun n => ord.idxOf n.toNat) → l = m := fun l => by
    induction l with
    | nil =>
      intro m _ _ e
      cases m with
      | nil => rfl
      | cons y m => cases e
    | cons x l ih =>
      intro m hl hm e
      cases m with
      | nil => cases e
      | cons y m =>
        rw [List.map_cons, List.map_cons] at e
        injection e with e1 e2
        replace e1 : ((ord.idxOf x.toNat : Nat) : Int) = (ord.idxOf y.toNat : Nat) := e1
        obtain ⟨x0, xm⟩ := hl x List.mem_cons_self
        obtain ⟨y0, ym⟩ := hm y List.mem_cons_self
        have z := idx_inj xm ym (by omega)
        have e3 : x = y := by omega
        rw [e3, ih m (fun n hn => hl n (List.mem_cons_of_mem _ hn)) (fun n hn => hm n (List.mem_cons_of_mem _ hn)) e2]
  have h3 := key _ _ (fun n hn => ⟨by rw [ra] at hn; exact ((ix a _ ea).2 n hn).1, ha n hn⟩) (fun n hn => ⟨by rw [rb] at hn; exact ((ix b _ eb).2 n hn).1, hb n hn⟩) h2
  rw [ra, rb] at h1 h3
  have e : U[a] = U[b] := Prod.ext h1 h3
  exact (List.getElem_inj nd).1 e
theorem AtL_map {R : Tr} {f : Int → PT} {g : Int → Nat} : ∀ {ns : List Int}, (∀ n ∈ ns, AtT R (f n) (g n)) → AtL R (ns.map f) (ns.map g)
  | [], _ => by
    unfold AtL
    rw [List.map_nil, List.map_nil, goL_nil]
  | n :: ns, h => AtL.mk (h n List.mem_cons_self) (AtL_map fun m hm => h m (List.mem_cons_of_mem _ hm))
theorem ord_there {U : Tr} {ord : List Nat} (ix : TrIdx U) (nd : U.Nodup) (h : OrdOk U ord) : ∀ (b a : Nat), a < b → a ∈ ord → AtT (rowsO U ord) (trA U a) (ord.idxOf a)
  | 0, a, hb, _ => absurd hb (Nat.not_lt_zero _)
  | b + 1, a, hb, ha => by
    have la := h.lt a ha
    have ea := List.getElem?_eq_getElem la
    have ra := rowAt_eq ea
    rw [trA_at ix ea]
    refine AtT.mk (ks := (U[a]).2.map fun n => ord.idxOf n.toNat) (AtL_map (f := fun n => trA U n.toNat) (g := fun n => ord.idxOf n.toNat) fun n hn => ?_) ?_
    · have := (ix a _ ea).2 n hn
      exact ord_there ix nd h b n.toNat (by omega) (h.cl a ha n (by rw [ra]; exact hn))
    · have e : mkI (U[a]).1 ((U[a]).2.map fun n => ord.idxOf n.toNat) = rowO U ord a := by
        unfold rowO
        rw [ra]
      rw [e]
      have li := List.idxOf_lt_length_iff.2 ha
      unfold markIx
      rw [List.findIdx?_eq_some_iff_getElem]
      refine ⟨by unfold rowsO; rw [List.length_map]; exact li, ?_, fun j hj => ?_⟩
      · unfold rowsO
        rw [List.getElem_map, List.getElem_idxOf li]
        exact decide_eq_true rfl
      · have lj : j < ord.length := by omega
        unfold rowsO
        rw [List.getElem_map]
        intro z
        have z2 := of_decide_eq_true z
        have mj := List.getElem_mem lj
        have e2 := mk_inj ix nd (h.lt _ mj) la (h.cl _ mj) (h.cl _ ha) z2
        have l3 := List.idxOf_lt_length_iff.2 mj
        have e3 := List.getElem_idxOf l3
        have := (List.getElem_inj h.nd (h₀ := l3) (h₁ := lj)).1 e3
        rw [e2] at this
        omega
theorem goL_open {pre post : List PT} {q : PT} : ∀ {R : Tr} {ks : List Nat}, AtL R pre ks → goL (pre ++ q :: post) R = goL (pre ++ q :: post) (goT q R).1 := by
  induction pre with
  | nil =>
    intro R ks _
    have g := go_at q R
    unfold AtT at g
    rw [List.nil_append, goL_cons, goL_cons, g]
  | cons p pre ih =>
    intro R ks h
    obtain ⟨k, ks', _, h1, h2⟩ := h.inv
    obtain ⟨e, he⟩ := goT_ext q R
    have h1' : AtT (goT q R).1 p k := by rw [he]; exact AtT.app p e h1
    unfold AtT at h1 h1'
    rw [List.cons_append, goL_cons, goL_cons, h1, h1']
    show ((goL (pre ++ q :: post) R).1, k :: (goL (pre ++ q :: post) R).2) = ((goL (pre ++ q :: post) (goT q R).1).1, k :: _)
    rw [ih h2]
theorem ord_open {U : Tr} {ord : List Nat} (ix : TrIdx U) (nd : U.Nodup) (h : OrdOk U ord) {a : Nat} (la : a < U.length) {pre post : List Int} {p : Int} (e : (rowAt U a).2 = pre ++ p :: post) (hp : ∀ n ∈ pre, n.toNat ∈ ord) : (goT (trA U a) (rowsO U ord)).1 = (goT (trA U a) (goT (trA U p.toNat) (rowsO U ord)).1).1 := by
  have ea := List.getElem?_eq_getElem la
  have ra := rowAt_eq ea
  rw [trA_at ix ea]
  rw [ra] at e
  have aL := AtL_map (R := rowsO U ord) (f := fun n => trA U n.toNat) (g := fun n => ord.idxOf n.toNat) (ns := pre) fun n hn => ord_there ix nd h (n.toNat + 1) n.toNat (Nat.lt_succ_self _) (hp n hn)
  have z := goL_open (q := trA U p.toNat) (post := post.map fun n => trA U n.toNat) aL
  rw [goT_node, goT_node, e, List.map_append, List.map_cons, z]
def finO (U : Tr) (S : List Nat) (R : Tr) : Tr := S.foldl (fun R a => (goT (trA U a) R).1) R
end Bk
set_option Elab.async false
/-! Bk66: heights, sizes, parts of trees, trees made of parts, copied: contracts. -/
namespace Bk
open PySem PySem.Spec PyProof.Rows L2
end Bk
set_option Elab.async false
/-! Bk67: trees laid behind one another, trees copied. -/
namespace Bk
open PySem PySem.Spec PyProof.Rows L2
/-! ### places of copies -/
structure PlI (H : Hp) (ps : List Addr) (pl : List (List Nat)) : Prop where
  len : ps.length = pl.length
  nd : ps.Nodup
  at_ : ∀ (q : Nat) (a : Addr) (l : List Nat), ps[q]? = some a → pl[q]? = some l → H a = some (.lst (natV l))
theorem PlI.keep {H H' : Hp} {ps : List Addr} {pl : List (List Nat)} (h : PlI H ps pl) (k : ∀ a ∈ ps, ∀ us, H a = some (.lst us) → H' a = some (.lst us)) : PlI H' ps pl := ⟨h.len, h.nd, fun q a l ha hl => k a (List.mem_of_getElem? ha) _ (h.at_ q a l ha hl)⟩
theorem PlI.snoc {H : Hp} {ps : List Addr} {pl : List (List Nat)} {a : Addr} {l : List Nat} (h : PlI H ps pl) (na : a ∉ ps) (ha : H a = some (.lst (natV l))) : PlI H (ps ++ [a]) (pl ++ [l]) := by
  refine ⟨by rw [List.length_append, List.length_append, h.len]; rfl, List.nodup_append.2 ⟨h.nd, List.nodup_cons.2 ⟨fun z => (nomatch z), List.nodup_nil⟩, fun x hx y hy => ?_⟩, fun q b m hb hm => ?_⟩
  · rw [List.mem_singleton.1 hy]
    exact fun z => na (z ▸ hx)
  · have hl := h.len
    rcases snoc_at hb with ⟨lb, hb'⟩ | ⟨rfl, rfl⟩
    · rw [List.getElem?_append_left (by omega)] at hm
      exact h.at_ q b m hb' hm
    · rw [List.getElem?_append_right (by omega), show ps.length - pl.length = 0 by omega] at hm
      cases hm
      exact ha
end Bk
set_option Elab.async false
/-! Bk68: rows looked for in lists of rows; the order of the law's plain tree. -/
namespace Bk
open PySem PySem.Spec PyProof.Rows L2
/-! ### lengths -/
theorem ones_sum (l : List Nat) : (l.map fun _ => 1).sum = l.length := by
  induction l with
  | nil => rfl
  | cons a l ih => rw [List.map_cons, List.sum_cons, ih, List.length_cons]; omega
theorem OrdOk.le {U : Tr} {ord : List Nat} (h : OrdOk U ord) : ord.length ≤ U.length := by
  have := sub_sum (fun _ => 1) ord (List.range U.length) h.nd fun b hb => List.mem_range.2 (h.lt b hb)
  rw [ones_sum, ones_sum, List.length_range] at this
  exact this
theorem up_len {n : Nat} : ∀ (S : List Nat) (lo : Nat), S.Pairwise (· < ·) → (∀ x ∈ S, lo ≤ x ∧ x < n) → S = [] ∨ S.length + lo ≤ n
  | [], _, _, _ => .inl rfl
  | a :: S, lo, hp, h => by
    obtain ⟨h1, h2⟩ := List.pairwise_cons.1 hp
    obtain ⟨a1, a2⟩ := h a List.mem_cons_self
    refine .inr ?_
    rcases up_len S (a + 1) h2 (fun x hx => ⟨h1 x hx, (h x (List.mem_cons_of_mem _ hx)).2⟩) with rfl | z
    · show 0 + 1 + lo ≤ n
      omega
    · rw [List.length_cons]
      omega
/-- the state of the law's plain walk -/
structure OSt (U : Tr) (k : Nat) (ord S : List Nat) : Prop where
  ok : OrdOk U ord
  up : S.Pairwise (· < ·)
  st : ∀ a ∈ S, a < U.length ∧ a ∉ ord
  fin : finO U S (rowsO U ord) = plT (trA U k)
theorem OSt.len {U : Tr} {k : Nat} {ord S : List Nat} (h : OSt U k ord S) : S.length ≤ U.length := by
  rcases up_len (n := U.length) S 0 h.up fun x hx => ⟨Nat.zero_le _, (h.st x hx).1⟩ with rfl | z
  · exact Nat.zero_le _
  · omega
theorem OSt.push {U : Tr} {k a : Nat} {ord S : List Nat} (ix : TrIdx U) (nd : U.Nodup) (h : OSt U k ord (a :: S)) {pre post : List Int} {p : Int} (e : (rowAt U a).2 = pre ++ p :: post) (hp : ∀ n ∈ pre, n.toNat ∈ ord) (np : p.toNat ∉ ord) : OSt U k ord (p.toNat :: a :: S) := by
  obtain ⟨la, _⟩ := h.st a List.mem_cons_self
  have ea := List.getElem?_eq_getElem la
  have lp : p.toNat < a := by
    have := (ix a _ ea).2 p (by rw [← rowAt_eq ea, e]; exact List.mem_append_right _ List.mem_cons_self)
    omega
  refine ⟨h.ok, List.pairwise_cons.2 ⟨fun x hx => ?_, h.up⟩, fun x hx => ?_, ?_⟩
  · rcases List.mem_cons.1 hx with rfl | hx
    · exact lp
    · have := (List.pairwise_cons.1 h.up).1 x hx
      omega
  · rcases List.mem_cons.1 hx with rfl | hx
    · exact ⟨by omega, np⟩
    · exact h.st x hx
  · have f := h.fin
    rw [← f]
    unfold finO
    rw [List.foldl_cons, List.foldl_cons, List.foldl_cons, ← ord_open ix nd h.ok la e hp]
end Bk
set_option Elab.async false
/-! Bk69: trees with one top; the law of k09. -/
namespace Bk
open PySem PySem.Spec PyProof.Rows L2
structure TrT (T : PT) (c : Tr) : Prop where
  pos : 0 < c.length
  few : c.length ≤ 400
  idx : TrIdx c
  top : trA c (c.length - 1) = T
  name : ∀ r ∈ c, TextOk r.1
theorem plain_top {t : Tr} (ok : TrIdx t) (h : 0 < t.length) : trA (plainF t) ((plainF t).length - 1) = trA t (t.length - 1) := by
  have pe := plain_end ok h
  have := pe.last PT (default : PT) PT.node
  unfold trA trP
  rw [List.getD_eq_getElem?_getD, List.getD_eq_getElem?_getD, this]
theorem TrT.plain {T : PT} {c : Tr} (h : TrT T c) : TrT T (plainF c) ∧ plainF c = plT T := by
  have pe := plain_end h.idx h.pos
  have l := pe.le
  have f := h.few
  refine ⟨⟨pe.pos, by omega, pe.idx, (plain_top h.idx h.pos).trans h.top, plain_names h.idx h.pos h.name⟩, ?_⟩
  rw [plainF_eq, h.top]
theorem TrT.row {nm : Str} {ps : List PT} {c : Tr} (h : TrT (.node nm ps) c) : (rowAt c (c.length - 1)).1 = nm ∧ (rowAt c (c.length - 1)).2.map (fun n => trA c n.toNat) = ps ∧ ps.length ≤ 2 := by
  have p := h.pos
  have er := List.getElem?_eq_getElem (l := c) (i := c.length - 1) (by omega)
  have e := h.top
  rw [trA_at h.idx er] at e
  injection e with e1 e2
  have r := rowAt_eq er
  rw [r]
  exact ⟨e1, e2, by rw [← e2, List.length_map]; exact (h.idx _ _ er).1⟩
theorem TrT.part {nm : Str} {ps : List PT} {c : Tr} (h : TrT (.node nm ps) c) : ∀ p ∈ ps, TrT p (plT p) ∧ (plT p).length ≤ c.length := fun p hp => by
  obtain ⟨_, e2, _⟩ := h.row
  rw [← e2] at hp
  obtain ⟨n, hn, rfl⟩ := List.mem_map.1 hp
  have q := h.pos
  have er := List.getElem?_eq_getElem (l := c) (i := c.length - 1) (by omega)
  rw [rowAt_eq er] at hn
  have ix := (h.idx _ _ er).2 n hn
  have l : (c.take (n.toNat + 1)).length = n.toNat + 1 := by rw [List.length_take]; omega
  have f := h.few
  have t : TrT (trA c n.toNat) (c.take (n.toNat + 1)) := ⟨by omega, by omega, h.idx.take _, by rw [l, Nat.add_sub_cancel]; exact trA_take (by omega) (Nat.lt_succ_self _), fun r hr => h.name r (List.mem_of_mem_take hr)⟩
  have z := t.plain
  have pl := (plain_end t.idx t.pos).le
  rw [z.2] at pl
  rw [z.2] at z
  exact ⟨z.1, by omega⟩
theorem TrT.size {T : PT} {c : Tr} (h : TrT T c) : (treeD c).size ≤ 2001 := by
  have := tree_size h.idx
  have := h.few
  omega
end Bk
set_option Elab.async false
/-! Bk70: patterns put into patterns. -/
namespace Bk
open PySem PySem.Spec PyProof.Rows L2
/-! ### values of patterns -/
/-! ### a pattern laid into rows -/
/-! ### a pattern with patterns put in -/
end Bk
set_option Elab.async false
set_option linter.all false
set_option maxRecDepth 100000
set_option maxHeartbeats 4000000
/-! Bk71: numbers and fractions as texts -/
namespace Bk
open PySem PySem.Spec PyProof.Rows L2
/-! ### numbers as texts -/
def numT (i : Int) : Str := ((toString i : String) : Str)
def numTL (i : Int) : List Nat := if i < 0 then 45 :: TL.numL i.natAbs else TL.numL i.natAbs
theorem numT_tl (i : Int) : (numT i).cps.toList = numTL i := by
  unfold numT numTL
  by_cases h : i < 0
  · rw [if_pos h]
    have e : (0 : Int) - i = ((i.natAbs : Nat) : Int) := by omega
    show TL.tl (Str.ofString (toString i)) = _
    rw [TL.tl_ofString, PyProof.Rows.toString_neg h, String.toList_append, List.map_append, ← TL.tl_ofString (toString (0 - i)), e, TL.tl_num]
    rfl
  · rw [if_neg h]
    have e : i = ((i.natAbs : Nat) : Int) := by omega
    show TL.tl (Str.ofString (toString i)) = _
    rw [e, TL.tl_num]
    rfl
theorem numTL_len {i : Int} {k : Nat} (hk : 0 < k) (h : i.natAbs < 10 ^ k) : (numTL i).length ≤ k + 1 := by
  have := TL.numL_len hk h
  unfold numTL
  split
  · rw [List.length_cons]; omega
  · omega
theorem numT_len {i : Int} {k : Nat} (hk : 0 < k) (h : i.natAbs < 10 ^ k) : (numT i).length ≤ k + 1 := by
  rw [str_len, numT_tl]
  exact numTL_len hk h
/-! ### figures -/
def figS : Str := "0123456789"
theorem fig_list : figS.cps.toList = [48, 49, 50, 51, 52, 53, 54, 55, 56, 57] := by decide +kernel
theorem fig_mem {c : Nat} : c ∈ figS.cps.toList ↔ 48 ≤ c ∧ c ≤ 57 := by
  rw [fig_list]
  simp only [List.mem_cons, List.not_mem_nil, or_false]
  omega
def isFigs (s : Str) : Bool := decide (0 < s.length ∧ s.length ≤ 30) && (s.cps.toList.all (fun c => decide (c ∈ figS.cps.toList)) && (decide (s = "0") || !decide (s.cps.toList.headD 0 = 48)))
theorem isFigs_iff {s : Str} : isFigs s = true ↔ (0 < s.length ∧ s.length ≤ 30) ∧ NumText.AllDigits s.cps.toList ∧ (s = "0" ∨ s.cps.toList.headD 0 ≠ 48) := by
  unfold isFigs
  rw [Bool.and_eq_true, Bool.and_eq_true, Bool.or_eq_true, decide_eq_true_eq, decide_eq_true_eq, Bool.not_eq_true', decide_eq_false_iff_not, List.all_eq_true]
  constructor
  · rintro ⟨a, b, c⟩
    exact ⟨a, fun x hx => fig_mem.1 (of_decide_eq_true (b x hx)), c⟩
  · rintro ⟨a, b, c⟩
    exact ⟨a, fun x hx => decide_eq_true (fig_mem.2 (b x hx)), c⟩
theorem fold_bound : ∀ (l : List Nat) (a : Nat), NumText.AllDigits l → a * 10 ^ l.length ≤ l.foldl (fun acc c => acc * 10 + (c - 48)) a ∧ l.foldl (fun acc c => acc * 10 + (c - 48)) a < (a + 1) * 10 ^ l.length
  | [], a, _ => by simp
  | c :: l, a, h => by
    have hc := h.head
    obtain ⟨z1, z2⟩ := fold_bound l (a * 10 + (c - 48)) h.tail
    rw [List.foldl_cons, List.length_cons, Nat.pow_succ]
    have p : 0 < 10 ^ l.length := Nat.pow_pos (by decide)
    constructor
    · refine Nat.le_trans ?_ z1
      rw [Nat.mul_comm (10 ^ l.length), ← Nat.mul_assoc]
      exact Nat.mul_le_mul_right _ (by omega)
    · refine Nat.lt_of_lt_of_le z2 ?_
      rw [Nat.mul_comm (10 ^ l.length), ← Nat.mul_assoc]
      exact Nat.mul_le_mul_right _ (by omega)
theorem digits_lt {l : List Nat} (h : NumText.AllDigits l) : NumText.digitsVal l < 10 ^ l.length := by
  have z := (fold_bound l 0 h).2
  rw [Nat.zero_add, Nat.one_mul] at z
  exact z
/-- the number that a text writes -/
def intT (s : Str) : Int := (intText? s).getD 0
theorem int_digits {s : Str} (h : NumText.AllDigits s.cps.toList) (h1 : s.cps.toList ≠ []) (h2 : s.length ≤ 600) : intText? s = some (intT s) ∧ intT s = ((NumText.digitsVal s.cps.toList : Nat) : Int) := by
  have e := intText_digits h h1 (by omega)
  unfold intT
  rw [e]
  exact ⟨rfl, rfl⟩
/-! ### fractions as texts -/
def showFx (f : Fx) : Str := if f.2 = 1 then numT f.1 else numT f.1 ++ "/" ++ numT f.2
end Bk
set_option Elab.async false
set_option linter.all false
set_option maxRecDepth 100000
set_option maxHeartbeats 4000000
/-! Bk72: int(t, 10), f-strings -/
namespace Bk
open PySem PySem.Spec PyProof.Rows L2
/-! ### int(t, 10) -/
/-! ### f-strings, str, int of texts -/
section
variable {K : PySem.W.Frag} {H : Hp} {Q : VK} {σ : L2.St}
/-- {x}: a text or an int -/
def uFmtV (x : V) (H : Hp) (Q : VK) : Prop := match x with
  | .str y => y.length ≤ 1000000 ∧ Q (.str y) H
  | .int i => i.natAbs.log2 < 1920 ∧ Q (.str (numT i)) H
  | _ => False
def uFmt (te : TE) : TE := fun σ H Q => te σ H fun x H1 => uFmtV x H1 Q
theorem g_fmt {te : TE} (h : te σ H fun x H1 => uFmtV x H1 Q) : uFmt te σ H Q := h
/-- f'..' -/
def uJs (ts : List TE) : TE := fun σ H Q => tJs ts Str.empty σ H fun out H1 => Q (.str out) H1
theorem g_uJs {ts : List TE} (h : tJs ts Str.empty σ H fun out H1 => Q (.str out) H1) : uJs ts σ H Q := h
theorem g_js {t : TE} {ts : List TE} {acc : Str} {R : Str → Hp → Prop} (h : t σ H fun x H1 => ∃ y : Str, x = .str y ∧ (acc ++ y).length ≤ sizeLine ∧ tJs ts (acc ++ y) σ H1 R) : tJs (t :: ts) acc σ H R := h
theorem g_jn {acc : Str} {R : Str → Hp → Prop} (h : R acc H) : tJs [] acc σ H R := h
end
theorem numT_bits {n : Nat} {i : Int} (h : Bits n i) (hn : 0 < n := by decide) : (numT i).length ≤ n + 1 := numT_len hn (Nat.lt_of_lt_of_le h (Nat.pow_le_pow_left (by decide) n))
end Bk
set_option Elab.async false
set_option linter.all false
set_option maxRecDepth 100000
set_option maxHeartbeats 4000000
/-! Bk73: readers as texts -/
namespace Bk
open PySem PySem.Spec PyProof.Rows L2
/-! ### pieces of a text cut at a sign -/
/-! ### terms, sums, rows as texts -/
def wordT (p : Nat) (b : Int) : Str := numT (p : Int) ++ "." ++ numT b
def wordsT : Nat → List (Option Int) → List Str
  | _, [] => []
  | n, none :: bs => wordsT (n + 1) bs
  | n, some b :: bs => wordT n b :: wordsT (n + 1) bs
def termT (t : Tm) : Str := Txt.join " " (showFx t.1 :: wordsT 0 t.2)
/-! ### reading -/
/-- a term that is read back -/
structure TmW (many : Nat) (t : Tm) : Prop where
  low : LowF t.1
  upper : t.1.1.natAbs < 10 ^ 30
  lower : t.1.2.natAbs < 10 ^ 30
  len : t.2.length = many
  box : ∀ b : Int, some b ∈ t.2 → 0 ≤ b ∧ b < 100
/-! ### sums -/
end Bk
set_option Elab.async false
set_option linter.all false
set_option maxRecDepth 100000
set_option maxHeartbeats 4000000
/-! Bk74: contracts of readers as texts -/
namespace Bk
open PySem PySem.Spec PyProof.Rows L2
theorem wordsT_len : ∀ (bs : List (Option Int)) (n : Nat), (wordsT n bs).length ≤ bs.length
  | [], _ => Nat.le_refl _
  | none :: bs, n => Nat.le_succ_of_le (wordsT_len bs (n + 1))
  | some b :: bs, n => Nat.succ_le_succ (wordsT_len bs (n + 1))
theorem small_bits {n : Nat} (h : n ≤ 1000) : Bits 10 (n : Int) := by
  show n < 2 ^ 10
  omega
theorem wordT_len {n : Nat} {b : Int} (hn : n ≤ 1000) (h : Bits 100 b) : (wordT n b).length ≤ 200 := by
  have l1 := numT_bits (small_bits hn)
  have l2 := numT_bits h
  unfold wordT
  rw [app_len, app_len]
  show _ + 1 + _ ≤ _
  omega
theorem wordsT_in : ∀ (bs : List (Option Int)) (n : Nat) (s : Str), s ∈ wordsT n bs → ∃ k b, s = wordT k b ∧ k < n + bs.length ∧ some b ∈ bs
  | [], _, _, h => by cases h
  | none :: bs, n, s, h => by
    obtain ⟨k, b, e, hk, hb⟩ := wordsT_in bs (n + 1) s h
    exact ⟨k, b, e, by rw [List.length_cons]; omega, List.mem_cons_of_mem _ hb⟩
  | some b :: bs, n, s, h => by
    rcases List.mem_cons.1 h with rfl | h
    · exact ⟨n, b, rfl, by rw [List.length_cons]; omega, List.mem_cons_self⟩
    · obtain ⟨k, b, e, hk, hb⟩ := wordsT_in bs (n + 1) s h
      exact ⟨k, b, e, by rw [List.length_cons]; omega, List.mem_cons_of_mem _ hb⟩
theorem showFx_len {f : Fx} {n : Nat} (h1 : Bits n f.1) (h2 : Bits n f.2) (hn : 0 < n := by decide) : (showFx f).length ≤ 2 * n + 3 := by
  have l1 := numT_bits h1 hn
  have l2 := numT_bits h2 hn
  unfold showFx
  split
  · omega
  · rw [app_len, app_len]
    show _ + 1 + _ ≤ _
    omega
theorem rep_flat {α : Type} (x : α) : ∀ n : Nat, (List.replicate n [x]).flatten = List.replicate n x
  | 0 => rfl
  | n + 1 => by rw [List.replicate_succ, List.flatten_cons, rep_flat x n, List.replicate_succ]; rfl
theorem g_repN {H : Hp} {Q : VK} {l : Addr} {x : V} {n : Nat} (hl : H l = some (.lst [x])) (hn : n ≤ 1000) (h : ∀ p, H p = none → Q (.ref p) (upd H p (.lst (List.replicate n x)))) : rRep (.ref l) (.int (n : Int)) H Q := by
  refine ⟨l, _, _, rfl, rfl, hl, by omega, by omega, Nat.le_trans (by rw [Int.toNat_natCast]; show 1 * n ≤ 1000; omega : _ ≤ 1000) (by decide), fun p hp => ?_⟩
  rw [Int.toNat_natCast, rep_flat]
  exact h p hp
end Bk
set_option Elab.async false
set_option linter.all false
set_option maxRecDepth 100000
set_option maxHeartbeats 4000000
/-! Bk75: how long readers' texts are -/
namespace Bk
open PySem PySem.Spec PyProof.Rows L2
/-! ### raised within an except suite -/
theorem g_iS {i j : Int} {gg : Int → Int → V} {C : Int → Int → Prop} {H : Hp} {Q : VK} (hc : C i j) (h : Q (gg i j) H) : uI C gg (.int i) (.int j) H Q := ⟨hc, h⟩
/-! ### loops that nothing leaves: what stands behind them is out of sight -/
section
variable {J : It} {n : Nat} {G : Hp → Prop} {Y : Nat → Hp → V → Hp → Prop}
theorem for_itC (w : Walk J n G Y) {g : TG} {tb : TS} {D : Ends} {σ : L2.St} {H : Hp} (Pv : Nat → L2.St → Hp → Prop) (h0 : Pv 0 σ H) (hG : ∀ i σ H, i ≤ n → Pv i σ H → G H)
    (hs : ∀ (RT : VK) (BK : L2.St → Hp → Prop) i x σ H H', i < n → Pv i σ H → Y i H x H' → g x σ H' fun σ2 H2 => tb { nx := Pv (i + 1), rt := RT, bk := BK, ct := Pv (i + 1) } σ2 H2) (hd : ∀ σ H, Pv n σ H → D.nx σ H) :
    ∃ W : Nat → Nat → L2.St → Hp → Prop, (∃ m, W 0 m σ H) ∧ ∀ i m σ H, W i m σ H →
      (J.stop i H ∧ D.nx σ H) ∨ (J.go i H ∧ ∃ N : L2.St → Hp → Prop, (∀ σ' H', N σ' H' → ∃ m', m' < m ∧ W (i + 1) m' σ' H') ∧ ∀ x H', J.yld i H x H' → g x σ H' fun σ2 H2 => tb { D with nx := N, ct := N, bk := D.nx } σ2 H2) :=
  for_it w Pv h0 hG (fun i x σ H H' hi p y => hs D.rt D.nx i x σ H H' hi p y) hd
end
/-! ### how long the texts are -/
structure TmL (t : Tm) : Prop where
  upper : Bits 10 t.1.1
  lower : Bits 10 t.1.2
  two : t.2.length ≤ 2
  box : ∀ b : Int, some b ∈ t.2 → Bits 10 b
theorem TmL.len {t : Tm} (h : TmL t) : (termT t).length ≤ 700 := by
  have l1 := showFx_len h.upper h.lower
  have l2 := wordsT_len t.2 0
  have l3 := h.two
  have z := join_len (y := " ") (ps := showFx t.1 :: wordsT 0 t.2) (b := 200) fun s hs => by
    rcases List.mem_cons.1 hs with rfl | hs
    · omega
    · obtain ⟨k, b, rfl, hk, hb⟩ := wordsT_in _ _ _ hs
      exact wordT_len (by omega) ((h.box b hb).le (by decide))
  have e : (" " : Str).length = 1 := by decide
  rw [List.length_cons, e] at z
  have := Nat.mul_le_mul_right 201 (by omega : (wordsT 0 t.2).length + 1 ≤ 3)
  exact Nat.le_trans z (by omega)
theorem FxOk.small {f : Fx} (h : FxOk f) : f.1.natAbs < 10 ^ 30 ∧ f.2.natAbs < 10 ^ 30 := by
  obtain ⟨a, b, c, d⟩ := h
  exact ⟨by omega, by omega⟩
theorem TmOk.w {w : Wd} (ok : WoodOk w) {r : Rd} (h : RdOk w r) {e : Nat × Mk} (he : e ∈ tabFrom 0 w) {t : Tm} (k : TmOk r.1 (dueOf w e) t) : TmW e.2.2.length t := by
  obtain ⟨d1, d2, d3, d4⟩ := dueOf_in ok he
  have tl := k.len
  refine ⟨k.num.low, k.num.small.1, k.num.small.2, tl.trans d2, fun bb hb => ?_⟩
  obtain ⟨u, hu⟩ := List.mem_iff_getElem?.1 hb
  have lu := (List.getElem?_eq_some_iff.1 hu).1
  have eu := List.getElem?_eq_getElem (l := dueOf w e) (i := u) (by omega)
  have z := List.all_eq_true.1 k.box _ (List.mem_of_getElem? (zip_at eu hu))
  replace z : decide (0 ≤ bb ∧ bb < cntAt r.1 ((dueOf w e)[u]'(by omega))) = true := z
  have z2 := of_decide_eq_true z
  obtain ⟨q0, q1⟩ := d4 _ (List.getElem_mem (by omega : u < (dueOf w e).length))
  have c5 : cntAt r.1 ((dueOf w e)[u]'(by omega)) ≤ 4 := by
    unfold cntAt
    rw [List.getD_eq_getElem?_getD, List.getElem?_eq_getElem (by rw [h.counts]; omega)]
    exact (h.count _ (List.getElem_mem _)).2
  omega
/-! ### a reader that is let by -/
/-! ### how great a reader is -/
def AskedR (H : Hp) (x : V) : Prop := ∃ (a : Addr) (w : Wd) (r : Rd) (wv rv : V), x = .ref a ∧ H a = some (.tup [wv, rv]) ∧ Rep H (woodD w) wv ∧ WoodOk w ∧ Rep H (rdD r) rv ∧ RdOk w r
theorem AskedR.tk {H H' : Hp} {x : V} (h : AskedR H x) (e : Tk H H') : AskedR H' x := by
  obtain ⟨a, w, r, wv, rv, h1, h2, h3, h4, h5, h6⟩ := h
  exact ⟨a, w, r, wv, rv, h1, e _ _ h2, h3.tk e (wood_hard w), h4, h5.tk e (rd_hard r), h6⟩
end Bk
set_option Elab.async false
set_option linter.all false
set_option maxRecDepth 100000
set_option maxHeartbeats 4000000
/-! Bk76: fractions as rational numbers -/
namespace Bk
open PySem PySem.Spec PyProof.Rows L2
/-! ### fractions as rational numbers -/
def ratV (f : Fx) : Rat := Rat.divInt f.1 f.2
theorem ratV_low {u l : Int} (h : 0 < l) : ratV (lowF u l) = Rat.divInt u l := by
  obtain ⟨a, b, c, d⟩ := low_parts (u := u) h
  unfold ratV
  have g0 : ((Int.gcd u l : Nat) : Int) ≠ 0 := by
    have : 0 < Int.gcd u l := Int.gcd_pos_of_ne_zero_right _ (by omega)
    omega
  have z := Rat.divInt_mul_right (n := fru u l) (d := frl u l) (a := ((Int.gcd u l : Nat) : Int)) g0
  rw [a, b] at z
  exact z.symm
theorem ratV_add {f g : Fx} (hf : 0 < f.2) (hg : 0 < g.2) : ratV (addF f g) = ratV f + ratV g := by
  unfold addF
  rw [ratV_low (Int.mul_pos hf hg)]
  unfold ratV
  rw [Rat.divInt_add_divInt _ _ (by omega) (by omega)]
theorem ratV_int (n : Int) : ratV (n, 1) = (n : Rat) := by
  show Rat.divInt n ((1 : Nat) : Int) = _
  rw [Rat.divInt_ofNat]
  exact Rat.mkRat_self (n : Rat)
/-! ### what sums of products come to -/
def prodQ : List (List Fx × Option Int) → Rat
  | [] => 1
  | x :: l => (match x.2 with | none => 1 | some i => ratV (x.1.getD i.toNat (0, 1))) * prodQ l
def PosP (parts : List (List Fx)) : Prop := ∀ p ∈ parts, ∀ f ∈ p, 0 < f.2
def termQ (parts : List (List Fx)) (t : Tm) : Rat := ratV t.1 * prodQ (parts.zip t.2)
def sumQ (parts : List (List Fx)) : Sm → Rat
  | [] => 0
  | t :: s => termQ parts t + sumQ parts s
theorem sumQ_app (parts : List (List Fx)) : ∀ s r : Sm, sumQ parts (s ++ r) = sumQ parts s + sumQ parts r
  | [], r => (Rat.zero_add _).symm
  | t :: s, r => by
    show termQ parts t + sumQ parts (s ++ r) = termQ parts t + sumQ parts s + sumQ parts r
    rw [sumQ_app parts s r, Rat.add_assoc]
theorem sumQ_perm (parts : List (List Fx)) {s r : Sm} (h : s.Perm r) : sumQ parts s = sumQ parts r := by
  induction h with
  | nil => rfl
  | cons x _ ih =>
    show termQ parts x + _ = termQ parts x + _
    rw [ih]
  | swap x y l =>
    show termQ parts y + (termQ parts x + sumQ parts l) = termQ parts x + (termQ parts y + sumQ parts l)
    rw [Rat.add_left_comm]
  | trans _ _ a b => exact a.trans b
end Bk
set_option Elab.async false
set_option linter.all false
set_option maxRecDepth 100000
set_option maxHeartbeats 4000000
/-! Bk77: readers with greater numbers; copies of rows -/
namespace Bk
open PySem PySem.Spec PyProof.Rows L2
/-! ### readers with somewhat greater numbers -/
structure TmG (cs ps : List Int) (t : Tm) : Prop where
  low : LowF t.1
  upper : t.1.1.natAbs ≤ 2000
  lower : t.1.2 ≤ 100
  len : t.2.length = ps.length
  box : (ps.zip t.2).all (boxOk cs) = true
structure RdG (w : Wd) (r : Rd) : Prop where
  counts : r.1.length = w.length
  count : ∀ c ∈ r.1, 0 ≤ c ∧ c ≤ 4
  rules : r.2.length = (tabFrom 0 w).length
  rule : ∀ (j : Nat) (e : Nat × Mk) (x : Rl), (tabFrom 0 w)[j]? = some e → r.2[j]? = some x → (x.length : Int) = cntAt r.1 e.1 ∧ ∀ s ∈ x, s.length ≤ 6 ∧ ∀ t ∈ s, TmG r.1 (dueOf w e) t
theorem cnt_leG {w : Wd} {r : Rd} (h : RdG w r) {n : Int} (h0 : 0 ≤ n) (h1 : n < (w.length : Nat)) : 0 ≤ cntAt r.1 n ∧ cntAt r.1 n ≤ 4 := by
  unfold cntAt
  rw [List.getD_eq_getElem?_getD, List.getElem?_eq_getElem (by rw [h.counts]; omega)]
  exact h.count _ (List.getElem_mem _)
theorem RdG.many {w : Wd} (ok : WoodOk w) {r : Rd} (h : RdG w r) {j : Nat} {e : Nat × Mk} {x : Rl} (h1 : (tabFrom 0 w)[j]? = some e) (h2 : r.2[j]? = some x) : x.length ≤ 4 := by
  obtain ⟨a, _⟩ := h.rule j e x h1 h2
  obtain ⟨d1, _⟩ := dueOf_in ok (List.mem_of_getElem? h1)
  have := cnt_leG h (n := ((e.1 : Nat) : Int)) (by omega) (by omega)
  omega
/-! ### what a row reads, and where it is used -/
end Bk
set_option Elab.async false
set_option linter.all false
set_option maxRecDepth 100000
set_option maxHeartbeats 4000000
/-! Bk78: the same by other terms; boxes in another order -/
namespace Bk
open PySem PySem.Spec PyProof.Rows L2
/-! ### sums that come to the same -/
theorem RdG.pos {w : Wd} {r : Rd} (h : RdG w r) {j : Nat} {e : Nat × Mk} {x : Rl} (h1 : (tabFrom 0 w)[j]? = some e) (h2 : r.2[j]? = some x) : ∀ s ∈ x, ∀ t ∈ s, 0 < t.1.2 := fun s hs t ht => (((h.rule j e x h1 h2).2 s hs).2 t ht).low.1
/-! ### boxes in another order -/
structure OrdR (w : Wd) (r : Rd) (os : List (List Int)) : Prop where
  len : os.length = w.length
  all : ∀ (k : Nat) (ks : List Int), os[k]? = some ks → (ks.length : Int) = cntAt r.1 (k : Nat) ∧ ∀ n : Int, n ∈ ks ↔ 0 ≤ n ∧ n < cntAt r.1 (k : Nat)
section
variable {w : Wd} {r : Rd} {os : List (List Int)}
theorem OrdR.get (h : OrdR w r os) {n : Int} (h0 : 0 ≤ n) (h1 : n < (w.length : Nat)) : ((os.getD n.toNat []).length : Int) = cntAt r.1 n ∧ ∀ m : Int, m ∈ os.getD n.toNat [] ↔ 0 ≤ m ∧ m < cntAt r.1 n := by
  have lt : n.toNat < os.length := by rw [h.len]; omega
  have e := List.getElem?_eq_getElem lt
  have z := h.all n.toNat _ e
  rw [List.getD_eq_getElem?_getD, e]
  rw [Int.toNat_of_nonneg h0] at z
  exact z
end
end Bk
set_option Elab.async false
set_option linter.all false
set_option maxRecDepth 100000
set_option maxHeartbeats 4000000
/-! Bk79: terms otherwise, orders -/
namespace Bk
open PySem PySem.Spec PyProof.Rows L2
/-! ### rows in another order -/
/-! ### sums that come to the same -/
theorem sumQ_part (parts : List (List Fx)) {f : Fx} (hf : 0 < f.2) (k : Int) (b : List (Option Int)) : termQ parts (addF f (0 - k, 1), b) + termQ parts ((k, 1), b) = termQ parts (f, b) := by
  unfold termQ
  rw [ratV_add hf (show (0 : Int) < 1 by decide), ratV_int, ratV_int, Int.zero_sub, Rat.intCast_neg]
  generalize prodQ (parts.zip _) = P
  grind
def SameS (s s' : Sm) : Prop := ∀ parts, PosP parts → sumQ parts s = sumQ parts s'
theorem SameS.perm {s s' : Sm} (h : s.Perm s') : SameS s s' := fun parts _ => sumQ_perm parts h
theorem SameS.trans {s s' s'' : Sm} (h : SameS s s') (h' : SameS s' s'') : SameS s s'' := fun parts k => (h parts k).trans (h' parts k)
theorem SameS.part {s : Sm} {f : Fx} {b : List (Option Int)} (hf : 0 < f.2) (k : Int) : SameS (s ++ [(addF f (0 - k, 1), b), ((k, 1), b)]) (s ++ [(f, b)]) := fun parts _ => by
  rw [sumQ_app, sumQ_app]
  show _ + (termQ parts (addF f (0 - k, 1), b) + (termQ parts ((k, 1), b) + 0)) = _ + (termQ parts (f, b) + 0)
  rw [Rat.add_zero, Rat.add_zero, sumQ_part parts hf]
theorem lowN (k : Int) : LowF (k, 1) := ⟨by show (0 : Int) < 1; decide, by show Int.gcd k 1 = 1; rw [Int.gcd_one_right]⟩
theorem TmG.num {cs ps : List Int} {t : Tm} (h : TmG cs ps t) {k : Int} (hk : k.natAbs ≤ 5) : TmG cs ps ((k, 1), t.2) := ⟨lowN k, by show k.natAbs ≤ 2000; omega, by show (1 : Int) ≤ 100; decide, h.len, h.box⟩
/-- a list of terms under way -/
structure OtSt (p L : Addr) (H0 H : Hp) (cs ps : List Int) (s0 s : Sm) (vs : List V) : Prop where
  lst : H L = some (.lst vs)
  rep : Reps H (s.map tmD) vs
  but : But p H0 H
  box : Box H p
  ok : ∀ t ∈ s, TmG cs ps t
  same : SameS s s0
theorem OtSt.len {p L : Addr} {H0 H : Hp} {cs ps : List Int} {s0 s : Sm} {vs : List V} (h : OtSt p L H0 H cs ps s0 s vs) : vs.length = s.length := by rw [h.rep.len, List.length_map]
theorem OtSt.ex {p L : Addr} {H0 H H' : Hp} {cs ps : List Int} {s0 s : Sm} {vs : List V} (h : OtSt p L H0 H cs ps s0 s vs) (e : Ex H H') : OtSt p L H0 H' cs ps s0 s vs := ⟨e _ _ h.lst, h.rep.ex e, h.but.trans (e.but p), h.box.ex e, h.ok, h.same⟩
theorem OtSt.by {p L : Addr} {H0 H H' : Hp} {cs ps : List Int} {s0 s : Sm} {vs : List V} (h : OtSt p L H0 H cs ps s0 s vs) (hL : H0 L = none) (n : L ≠ p) (b : But p H H') (hb : Box H' p) : OtSt p L H0 H' cs ps s0 s vs := ⟨b _ _ n h.lst, h.rep.tkm (h.box.tk b) tm_hard, h.but.trans b, hb, h.ok, h.same⟩
theorem SameS.refl (s : Sm) : SameS s s := fun _ _ => rfl
end Bk
set_option Elab.async false
set_option linter.all false
set_option maxRecDepth 100000
set_option maxHeartbeats 4000000
/-! Bk80: k18: what the law asks -/
namespace Bk
open PySem PySem.Spec PyProof.Rows L2
theorem SzsOk.mono {a b : Int} {t : Tr} {szs : List Int} (h : SzsOk a t szs) (hab : a ≤ b) : SzsOk b t szs := ⟨fun s hs => ⟨(h.le s hs).1, Int.le_trans (h.le s hs).2 hab⟩, h.row⟩
/-- the orders drawn -/
structure OrSt (w : Wd) (r : Rd) (H : Hp) (as : List Addr) (os : List (List Int)) : Prop where
  len : as.length = os.length
  lst : ∀ (k : Nat) (b : Addr) (o : List Int), as[k]? = some b → os[k]? = some o → H b = some (.lst (o.map V.int))
  perm : ∀ (k : Nat) (o : List Int), os[k]? = some o → (o.length : Int) = cntAt r.1 (k : Nat) ∧ ∀ n : Int, n ∈ o ↔ 0 ≤ n ∧ n < cntAt r.1 (k : Nat)
theorem OrSt.snoc {w : Wd} {r : Rd} {H H' : Hp} {as : List Addr} {os : List (List Int)} {a : Addr} {o : List Int} (h : OrSt w r H as os) (keep : ∀ b ∈ as, ∀ x, H b = some x → H' b = some x) (ha : H' a = some (.lst (o.map V.int))) (hp : (o.length : Int) = cntAt r.1 ((os.length : Nat) : Int) ∧ ∀ n : Int, n ∈ o ↔ 0 ≤ n ∧ n < cntAt r.1 ((os.length : Nat) : Int)) : OrSt w r H' (as ++ [a]) (os ++ [o]) := by
  refine ⟨by rw [List.length_append, List.length_append, h.len]; rfl, fun k b p e1 e2 => ?_, fun k p e2 => ?_⟩
  · by_cases c : k < as.length
    · rw [List.getElem?_append_left c] at e1
      rw [List.getElem?_append_left (by rw [← h.len]; exact c)] at e2
      exact keep b (List.mem_of_getElem? e1) _ (h.lst k b p e1 e2)
    · rw [List.getElem?_append_right (by omega)] at e1
      rw [List.getElem?_append_right (by rw [← h.len]; omega), ← h.len] at e2
      have z : k - as.length = 0 := by
        have := (List.getElem?_eq_some_iff.1 e1).1
        rw [List.length_singleton] at this
        omega
      rw [z] at e1 e2
      cases e1
      cases e2
      exact ha
  · by_cases c : k < os.length
    · rw [List.getElem?_append_left c] at e2
      exact h.perm k p e2
    · rw [List.getElem?_append_right (by omega)] at e2
      have lz := (List.getElem?_eq_some_iff.1 e2).1
      rw [List.length_singleton] at lz
      have z : k = os.length := by omega
      subst z
      rw [Nat.sub_self] at e2
      cases e2
      exact hp
end Bk
set_option Elab.async false
set_option linter.all false
set_option maxRecDepth 100000
set_option maxHeartbeats 4000000
/-! Bk81: methods of own classes, slices stored, dict.get, tuples many times over -/
namespace Bk
open PySem PySem.Spec PyProof.Rows L2
/-! ### own classes -/
/-! ### slices stored -/
/-! ### dict.get -/
/-! ### tuple * n, short tuples many times over -/
end Bk
set_option Elab.async false
set_option linter.all false
set_option maxRecDepth 100000
set_option maxHeartbeats 4000000
/-! Bk82: trees as words -/
namespace Bk
open PySem PySem.Spec PyProof.Rows L2
/-! ### a tree's word -/
def wordF : Str → List (List Str) → List Str := fun s ws => ws.flatten ++ [s]
def wordP (p : PT) : List Str := evT wordF p
theorem wordP_node (s : Str) (ps : List PT) : wordP (.node s ps) = (ps.map wordP).flatten ++ [s] := by
  unfold wordP
  rw [evT_node]
  rfl
def sizeP (p : PT) : Int := evT szf p
theorem sizeP_node (s : Str) (ps : List PT) : sizeP (.node s ps) = 1 + (ps.map sizeP).sum := by
  unfold sizeP
  rw [evT_node]
  rfl
mutual
theorem wordP_len : ∀ p : PT, ((wordP p).length : Int) = sizeP p
  | .node s ps => by
    rw [wordP_node, sizeP_node, List.length_append]
    have := wordP_lens ps
    show ((_ + 1 : Nat) : Int) = _
    omega
theorem wordP_lens : ∀ ps : List PT, ((ps.map wordP).flatten.length : Int) = (ps.map sizeP).sum
  | [] => rfl
  | p :: ps => by
    have h1 := wordP_len p
    have h2 := wordP_lens ps
    rw [List.map_cons, List.flatten_cons, List.length_append, List.map_cons, List.sum_cons]
    omega
end
theorem size_pos (p : PT) : 1 ≤ sizeP p := by
  cases p with
  | node s ps =>
    rw [← wordP_len, wordP_node, List.length_append]
    show 1 ≤ ((_ + 1 : Nat) : Int)
    omega
/-! ### reading a word -/
abbrev Nm := Str × Option Int
structure StN where
  rows : Tr
  pile : List (Int × Int)
def stepN (w : Wd) (s : StN) (n : Nm) : Option StN := match mkOf w n.1 with
  | none => none
  | some e =>
    if (dueOf w e).length ≤ s.pile.length ∧ (n.2 = none ∨ n.2 = some (((dueOf w e).length : Nat) : Int)) ∧ (s.pile.drop (s.pile.length - (dueOf w e).length)).map Prod.fst = dueOf w e then
      some ⟨s.rows ++ [(n.1, (s.pile.drop (s.pile.length - (dueOf w e).length)).map Prod.snd)], s.pile.take (s.pile.length - (dueOf w e).length) ++ [(((e.1 : Nat) : Int), ((s.rows.length : Nat) : Int))]⟩
    else none
/-- what stands while a word is read -/
structure NInv (w : Wd) (s : StN) : Prop where
  idx : TrIdx s.rows
  name : ∀ r ∈ s.rows, ∃ e, mkOf w r.1 = some e
  pile : ∀ p ∈ s.pile, 0 ≤ p.2 ∧ p.2 < (s.rows.length : Nat) ∧ p.1 = kindAt w (rowAt s.rows p.2.toNat).1
theorem NInv.nil (w : Wd) : NInv w ⟨[], []⟩ := ⟨fun i r h => by simp at h, fun r h => (nomatch h), fun p h => (nomatch h)⟩
theorem rowAt_app {t e : Tr} {a : Nat} (h : a < t.length) : rowAt (t ++ e) a = rowAt t a := by
  unfold rowAt
  rw [List.getD_eq_getElem?_getD, List.getD_eq_getElem?_getD, List.getElem?_append_left h]
theorem rowAt_new {t : Tr} {r : Str × List Int} : rowAt (t ++ [r]) t.length = r := rowAt_eq (by rw [List.getElem?_append_right (Nat.le_refl _), Nat.sub_self]; rfl)
theorem NInv.step {w : Wd} (ok : WoodOk w) {s s' : StN} {n : Nm} (h : NInv w s) (e : stepN w s n = some s') : NInv w s' ∧ s'.rows.length = s.rows.length + 1 ∧ s'.pile.length ≤ s.pile.length + 1 := by
  unfold stepN at e
  split at e
  · cases e
  · rename_i m hm
    split at e
    · rename_i c
      cases e
      have d2 := due_two ok (mkOf_some hm).1
      refine ⟨⟨h.idx.snoc ?_ fun x hx => ?_, fun r hr => ?_, fun p hp => ?_⟩, by rw [List.length_append]; rfl, by rw [List.length_append, List.length_take]; show _ + 1 ≤ _; omega⟩
      · show (List.map _ _).length ≤ 2
        rw [List.length_map, List.length_drop]
        omega
      · obtain ⟨p, hp, rfl⟩ := List.mem_map.1 hx
        obtain ⟨a, b, _⟩ := h.pile p (List.mem_of_mem_drop hp)
        exact ⟨a, b⟩
      · rcases List.mem_append.1 hr with hr | hr
        · exact h.name r hr
        · rw [List.mem_singleton.1 hr]
          exact ⟨m, hm⟩
      · have lr : (s.rows ++ [(n.1, (s.pile.drop (s.pile.length - (dueOf w m).length)).map Prod.snd)]).length = s.rows.length + 1 := by rw [List.length_append]; rfl
        rcases List.mem_append.1 hp with hp | hp
        · obtain ⟨a, b, c⟩ := h.pile p (List.mem_of_mem_take hp)
          exact ⟨a, by rw [lr]; omega, by rw [rowAt_app (by omega)]; exact c⟩
        · rw [List.mem_singleton.1 hp]
          refine ⟨Int.natCast_nonneg _, by rw [lr]; show ((s.rows.length : Nat) : Int) < _; omega, ?_⟩
          show ((m.1 : Nat) : Int) = kindAt w (rowAt _ (((s.rows.length : Nat) : Int).toNat)).1
          rw [Int.toNat_natCast, rowAt_new]
          show _ = kindAt w n.1
          unfold kindAt
          rw [hm]
    · cases e
/-! ### a tree's word, read -/
theorem trA_pre {t e : Tr} {a : Nat} (h : a < t.length) : trA (t ++ e) a = trA t a := by
  have z := trA_take (t := t ++ e) (k := t.length) (by rw [List.length_append]; omega) h
  rw [List.take_left] at z
  exact z.symm
end Bk
set_option Elab.async false
set_option linter.all false
set_option maxRecDepth 100000
set_option maxHeartbeats 4000000
/-! Bk83: words: what stands on the stack, contracts of k10 -/
namespace Bk
open PySem PySem.Spec PyProof.Rows L2
/-! ### the stack of word_of -/
/-! ### contracts -/
end Bk
set_option Elab.async false
set_option linter.all false
set_option maxRecDepth 100000
set_option maxHeartbeats 4000000
/-! Bk84: ints compared, slices from a place on, what is told -/
namespace Bk
open PySem PySem.Spec PyProof.Rows L2
end Bk
set_option Elab.async false
set_option linter.all false
set_option maxRecDepth 100000
set_option maxHeartbeats 4000000
/-! Bk85: trees of a size, chains -/
namespace Bk
open PySem PySem.Spec PyProof.Rows L2
theorem g_eqSame {K : PySem.W.Frag} {H : Hp} {Q : VK} {v w : V} {d : D} (h : Rep H d v) (k : Rep H d w) (hs : d.Sig) (hd : d.dep ≤ 64) (q : Q (.bl true) H) : rEqD K v w H Q := by
  refine ⟨d.pd, d.pd, Rep.dp h, Rep.dp k, D.shaped hs hd, D.shaped hs hd, ?_⟩
  rw [D.pd_eqv]
  exact q
/-! ### trees that grow by one row at the end -/
inductive OfS (a b c : Str) : Tr → Prop where
  | one : OfS a b c [(a, [])]
  | two {t : Tr} : OfS a b c t → OfS a b c (t ++ [(b, [((t.length - 1 : Nat) : Int)])])
  | three {t : Tr} : OfS a b c t → OfS a b c (t ++ [(c, [((t.length - 1 : Nat) : Int), ((t.length - 1 : Nat) : Int)])])
section
variable {a b c : Str} {t : Tr}
theorem OfS.pos (h : OfS a b c t) : 0 < t.length := by
  cases h with
  | one => exact Nat.succ_pos _
  | two _ => rw [List.length_append]; exact Nat.succ_pos _
  | three _ => rw [List.length_append]; exact Nat.succ_pos _
theorem OfS.idx (h : OfS a b c t) : TrIdx t := by
  induction h with
  | one =>
    intro i r hr
    cases i with
    | zero =>
      cases hr
      exact ⟨Nat.zero_le _, fun n hn => (nomatch hn)⟩
    | succ i => cases hr
  | @two t h ih =>
    have p := h.pos
    exact ih.snoc (by show 1 ≤ 2; decide) fun n hn => by rw [List.mem_singleton.1 hn]; omega
  | @three t h ih =>
    have p := h.pos
    refine ih.snoc (by show 2 ≤ 2; decide) fun n hn => ?_
    have e : n = ((t.length - 1 : Nat) : Int) := by
      rcases List.mem_cons.1 hn with e | hn
      · exact e
      · exact List.mem_singleton.1 hn
    rw [e]
    omega
theorem OfS.name (h : OfS a b c t) : ∀ r ∈ t, r.1 = a ∨ r.1 = b ∨ r.1 = c := by
  induction h with
  | one => exact fun r hr => .inl (by rw [List.mem_singleton.1 hr])
  | two _ ih =>
    intro r hr
    rcases List.mem_append.1 hr with hr | hr
    · exact ih r hr
    · exact .inr (.inl (by rw [List.mem_singleton.1 hr]))
  | three _ ih =>
    intro r hr
    rcases List.mem_append.1 hr with hr | hr
    · exact ih r hr
    · exact .inr (.inr (by rw [List.mem_singleton.1 hr]))
theorem top_new {t : Tr} {r : Str × List Int} (h : TrIdx (t ++ [r])) : trA (t ++ [r]) ((t ++ [r]).length - 1) = .node r.1 (r.2.map fun n => trA t n.toNat) := by
  have l : (t ++ [r]).length - 1 = t.length := by rw [List.length_append]; rfl
  have e : (t ++ [r])[t.length]? = some r := by rw [List.getElem?_append_right (Nat.le_refl _), Nat.sub_self]; rfl
  rw [l, trA_at h e]
  congr 1
  refine List.map_congr_left fun n hn => ?_
  have := (h _ _ e).2 n hn
  exact trA_pre (by omega)
theorem top_two {t : Tr} (h : 0 < t.length) (ix : TrIdx t) : trA (t ++ [(b, [((t.length - 1 : Nat) : Int)])]) ((t ++ [(b, [((t.length - 1 : Nat) : Int)])]).length - 1) = .node b [trA t (t.length - 1)] := by
  rw [top_new (ix.snoc (by show 1 ≤ 2; decide) fun n hn => by rw [List.mem_singleton.1 hn]; omega)]
  show PT.node b [trA t (((t.length - 1 : Nat) : Int).toNat)] = _
  rw [Int.toNat_natCast]
theorem OfS.top2 (h : OfS a b c t) : sizeP (trA (t ++ [(b, [((t.length - 1 : Nat) : Int)])]) ((t ++ [(b, [((t.length - 1 : Nat) : Int)])]).length - 1)) = 1 + sizeP (trA t (t.length - 1)) := by
  rw [top_two h.pos h.idx, sizeP_node]
  show 1 + (sizeP _ + 0) = _
  omega
theorem OfS.top3 (h : OfS a b c t) : sizeP (trA (t ++ [(c, [((t.length - 1 : Nat) : Int), ((t.length - 1 : Nat) : Int)])]) ((t ++ [(c, [((t.length - 1 : Nat) : Int), ((t.length - 1 : Nat) : Int)])]).length - 1)) = 1 + 2 * sizeP (trA t (t.length - 1)) := by
  rw [top_new (OfS.three h).idx, sizeP_node]
  show 1 + (sizeP (trA t (((t.length - 1 : Nat) : Int).toNat)) + (sizeP (trA t (((t.length - 1 : Nat) : Int).toNat)) + 0)) = _
  rw [Int.toNat_natCast]
  omega
end
/-! ### sizes on the way to 1 -/
def stepZ (n : Nat) : Nat := if n % 2 = 1 then n / 2 else n - 1
inductive SzL (many : Nat) : List Nat → Prop where
  | one : 1 ≤ many → SzL many [many]
  | step {l : List Nat} {x : Nat} : SzL many (l ++ [x]) → 1 < x → SzL many (l ++ [x] ++ [stepZ x])
theorem SzL.pos {many : Nat} {l : List Nat} (h : SzL many l) : ∀ x ∈ l, 1 ≤ x := by
  induction h with
  | one h => exact fun x hx => by rw [List.mem_singleton.1 hx]; exact h
  | @step l y _ h ih =>
    intro x hx
    rcases List.mem_append.1 hx with hx | hx
    · exact ih x hx
    · rw [List.mem_singleton.1 hx]
      unfold stepZ
      split <;> omega
theorem SzL.head {many : Nat} {l : List Nat} (h : SzL many l) : l.getD 0 0 = many := by
  induction h with
  | one _ => rfl
  | @step l y _ _ ih =>
    cases l with
    | nil => exact ih
    | cons z l => exact ih
def phiZ (n : Nat) : Nat := 2 * n.log2 + (if n % 2 = 0 then 1 else 0)
theorem phi_step {n : Nat} (h : 1 < n) : phiZ (stepZ n) < phiZ n := by
  unfold phiZ stepZ
  have n2 : n % 2 = 0 ∨ n % 2 = 1 := by omega
  have lg : n.log2 = (n / 2).log2 + 1 := by
    have h0 : n ≠ 0 := by omega
    have h1 : n / 2 ≠ 0 := by omega
    have a1 := Nat.log2_self_le h1
    have a2 : n / 2 < 2 ^ ((n / 2).log2 + 1) := (Nat.log2_lt h1).1 (Nat.lt_succ_self _)
    have b1 : (n / 2).log2 + 1 ≤ n.log2 := (Nat.le_log2 h0).2 (by rw [Nat.pow_succ]; omega)
    have b2 : n.log2 < (n / 2).log2 + 2 := (Nat.log2_lt h0).2 (by rw [Nat.pow_succ] at a2 ⊢; rw [Nat.pow_succ]; omega)
    omega
  rcases n2 with z | z
  · rw [if_neg (by omega), if_pos z, if_neg (by omega)]
    have : (n - 1).log2 ≤ n.log2 := by
      by_cases e : n - 1 = 0
      · rw [e]; exact Nat.zero_le _
      · have h1 := Nat.log2_self_le e
        exact (Nat.le_log2 (by omega)).2 (by omega)
    omega
  · have zz : ¬ n % 2 = 0 := by omega
    rw [if_pos z, if_neg zz]
    split <;> omega
theorem SzL.phi {many : Nat} {l : List Nat} (h : SzL many l) : ∀ m x, l = m ++ [x] → l.length + phiZ x ≤ 1 + phiZ many := by
  induction h with
  | one _ =>
    intro m x e
    have : m = [] ∧ x = many := by
      cases m with
      | nil => cases e; exact ⟨rfl, rfl⟩
      | cons z m =>
        have := congrArg List.length e
        rw [List.length_append, List.length_singleton, List.length_cons, List.length_singleton] at this
        omega
    rw [this.2]
    exact Nat.le_refl _
  | @step l y h hy ih =>
    intro m x e
    obtain ⟨e1, e2⟩ := List.append_inj' e rfl
    cases e2
    have := ih l y rfl
    have := phi_step hy
    rw [List.length_append, List.length_singleton]
    omega
theorem SzL.len {many : Nat} {l : List Nat} (h : SzL many l) (hm : many < 2 ^ 32) : l.length ≤ 64 := by
  have hp : phiZ many ≤ 63 := by
    unfold phiZ
    have : many.log2 ≤ 31 := by
      by_cases e : many = 0
      · rw [e]; decide
      · exact Nat.le_of_lt_succ ((Nat.log2_lt e).2 hm)
    split <;> omega
  obtain ⟨m, x, e⟩ : ∃ m x, l = m ++ [x] := by
    cases h with
    | one _ => exact ⟨[], _, rfl⟩
    | step _ _ => exact ⟨_, _, rfl⟩
  have := h.phi m x e
  by_cases z : phiZ x = 0
  · omega
  · omega
/-! ### the wood of these trees -/
def woodS (a b c k : Str) : Wd := [(k, [(a, []), (b, [k]), (c, [k, k])])]
section
variable {a b c k : Str}
structure WsOk (a b c k : Str) : Prop where
  names : isName a = true ∧ isName b = true ∧ isName c = true ∧ isName k = true
  nd : a ≠ b ∧ a ≠ c ∧ b ≠ c
theorem WsOk.wood (h : WsOk a b c k) : WoodOk (woodS a b c k) := by
  obtain ⟨⟨ha, hb, hc, hk⟩, n1, n2, n3⟩ := h
  refine ⟨⟨Nat.le_refl 1, (show 1 ≤ 4 by decide)⟩, fun q hq => ?_, List.nodup_cons.2 ⟨fun z => (nomatch z), List.nodup_nil⟩, fun q hq m hm => ?_, ?_, (show 3 ≤ 12 by decide)⟩
  · rw [List.mem_singleton.1 hq]
    exact hk
  · rw [List.mem_singleton.1 hq] at hm
    replace hm : m ∈ [(a, []), (b, [k]), (c, [k, k])] := hm
    simp only [List.mem_cons, List.not_mem_nil, or_false] at hm
    rcases hm with rfl | rfl | rfl
    · exact ⟨ha, Nat.zero_le _, fun s hs => (nomatch hs)⟩
    · exact ⟨hb, (show 1 ≤ 2 by decide), fun s hs => hs⟩
    · refine ⟨hc, Nat.le_refl 2, fun s hs => ?_⟩
      simp only [List.mem_cons, List.not_mem_nil, or_false, or_self] at hs
      rw [hs]
      exact List.mem_cons_self
  · show [a, b, c].Nodup
    simp [n1, n2, n3]
theorem kind_zero {w : Wd} {s : Str} {m : Mk} (h : mkOf w s = some (0, m)) : kindAt w s = 0 := by
  unfold kindAt
  rw [h]
  rfl
theorem WsOk.mks (h : WsOk a b c k) : mkOf (woodS a b c k) a = some (0, (a, [])) ∧ mkOf (woodS a b c k) b = some (0, (b, [k])) ∧ mkOf (woodS a b c k) c = some (0, (c, [k, k])) := by
  have nd := h.wood.nd
  exact ⟨mkOf_mem nd (e := (0, (a, []))) (List.mem_cons_self ..), mkOf_mem nd (e := (0, (b, [k]))) (List.mem_cons_of_mem _ List.mem_cons_self), mkOf_mem nd (e := (0, (c, [k, k]))) (List.mem_cons_of_mem _ (List.mem_cons_of_mem _ List.mem_cons_self))⟩
theorem OfS.kind (h : WsOk a b c k) {t : Tr} (o : OfS a b c t) {n : Nat} {q : Str × List Int} (e : t[n]? = some q) : kindAt (woodS a b c k) q.1 = 0 := by
  obtain ⟨m1, m2, m3⟩ := h.mks
  rcases o.name q (List.mem_of_getElem? e) with z | z | z <;> rw [z]
  · exact kind_zero m1
  · exact kind_zero m2
  · exact kind_zero m3
end
/-! ### chains -/
end Bk
set_option Elab.async false
set_option linter.all false
set_option maxRecDepth 100000
set_option maxHeartbeats 4000000
/-! Bk86: shifts, words spoilt: contracts -/
namespace Bk
open PySem PySem.Spec PyProof.Rows L2
end Bk
set_option Elab.async false
set_option linter.all false
set_option maxRecDepth 100000
set_option maxHeartbeats 4000000
/-! Bk87: words of chains, sizes -/
namespace Bk
open PySem PySem.Spec PyProof.Rows L2
theorem OfS.small {a b c : Str} {t : Tr} (o : OfS a b c t) : ∀ i, i < t.length → sizeP (trA t i) ≤ sizeP (trA t (t.length - 1)) := by
  induction o with
  | one =>
    intro i hi
    have : i = 0 := Nat.lt_one_iff.1 hi
    rw [this]
    exact Int.le_refl _
  | @two t o ih =>
    intro i hi
    have l : (t ++ [(b, [((t.length - 1 : Nat) : Int)])]).length = t.length + 1 := by rw [List.length_append]; rfl
    by_cases c : i < t.length
    · rw [trA_pre c, o.top2]
      have := ih i c
      omega
    · have : i = (t ++ [(b, [((t.length - 1 : Nat) : Int)])]).length - 1 := by omega
      rw [this]
      exact Int.le_refl _
  | @three t o ih =>
    intro i hi
    have l : (t ++ [(c, [((t.length - 1 : Nat) : Int), ((t.length - 1 : Nat) : Int)])]).length = t.length + 1 := by rw [List.length_append]; rfl
    by_cases cc : i < t.length
    · rw [trA_pre cc, o.top3]
      have := ih i cc
      have := size_pos (trA t i)
      omega
    · have : i = (t ++ [(c, [((t.length - 1 : Nat) : Int), ((t.length - 1 : Nat) : Int)])]).length - 1 := by rw [l]; omega
      rw [this]
      exact Int.le_refl _
/-! ### words of chains -/
end Bk
set_option Elab.async false
set_option linter.all false
set_option maxRecDepth 100000
set_option maxHeartbeats 4000000
/-! Bk88: texts of trees: how they are spelled -/
namespace Bk
open PySem PySem.Spec PyProof.Rows L2
/-! ### one sign at a place -/
/-! ### the parser -/
def isLet (c : Nat) : Bool := decide (c ∈ lettersS.cps.toList)
abbrev Ops := List (Str × Nat)
/-! ### contracts -/
abbrev flTT (t b : V) : List (Str × V) := [("text", t), ("begin", b)]
def TxAt (C : Addr) (H : Hp) (p : Addr) (z : Str) (b : Nat) : Prop := ∃ dx, H p = some (.ins C dx (flTT (.str z) (.int (b : Nat))))
theorem TxAt.ex {C : Addr} {H H' : Hp} {p : Addr} {z : Str} {b : Nat} (h : TxAt C H p z b) (e : Ex H H') : TxAt C H' p z b := h.elim fun dx h => ⟨dx, e _ _ h⟩
theorem TxAt.at_upd {C : Addr} {H : Hp} {p q : Addr} {z : Str} {b : Nat} {o : HO} (h : TxAt C H p z b) (n : q ≠ p) : TxAt C (upd H q o) p z b := h.elim fun dx h => ⟨dx, by rw [upd_ne (Ne.symm n)]; exact h⟩
end Bk
set_option Elab.async false
set_option linter.all false
set_option maxRecDepth 100000
set_option maxHeartbeats 4000000
/-! Bk89: texts of trees, how they are read; wider contracts -/
namespace Bk
open PySem PySem.Spec PyProof.Rows L2
/-! ### a tree's text -/
inductive OkP : PT → Prop where
  | node {s : Str} {ps : List PT} : isName s = true → (∀ p ∈ ps, OkP p) → OkP (.node s ps)
theorem OkP.name {s : Str} {ps : List PT} (h : OkP (.node s ps)) : isName s = true := by cases h; assumption
theorem OkP.part {s : Str} {ps : List PT} (h : OkP (.node s ps)) : ∀ p ∈ ps, OkP p := by cases h; assumption
/-! ### a tree's text, gone through -/
def Stop (l : List Nat) : Prop := l = [] ∨ (∃ r, l = 44 :: r) ∨ ∃ r, l = 41 :: r
theorem Stop.head {l : List Nat} (h : Stop l) : ∀ c, l.head? = some c → isLet c = false ∧ c ≠ 40 := by
  rcases h with rfl | ⟨r, rfl⟩ | ⟨r, rfl⟩
  · intro c h; cases h
  · intro c h; cases h; exact ⟨by decide +kernel, by decide⟩
  · intro c h; cases h; exact ⟨by decide +kernel, by decide⟩
/-! ### what the names and counts tell -/
/-! ### alike just where the same -/
end Bk
set_option Elab.async false
set_option linter.all false
set_option maxRecDepth 100000
set_option maxHeartbeats 4000000
/-! Bk90: wider contracts: trees to 3000 rows -/
namespace Bk
open PySem PySem.Spec PyProof.Rows L2
/-- what a tree's rows tell, whatever their names -/
structure TrU (T : PT) (c : Tr) : Prop where
  pos : 0 < c.length
  few : c.length ≤ 3000
  idx : TrIdx c
  top : trA c (c.length - 1) = T
  name : ∀ r ∈ c, TextOk r.1
theorem TrU.plain {T : PT} {c : Tr} (h : TrU T c) : TrU T (plainF c) ∧ plainF c = plT T := by
  have pe := plain_end h.idx h.pos
  have l := pe.le
  have f := h.few
  refine ⟨⟨pe.pos, by omega, pe.idx, (plain_top h.idx h.pos).trans h.top, plain_names h.idx h.pos h.name⟩, ?_⟩
  rw [plainF_eq, h.top]
theorem TrU.row {nm : Str} {ps : List PT} {c : Tr} (h : TrU (.node nm ps) c) : (rowAt c (c.length - 1)).1 = nm ∧ (rowAt c (c.length - 1)).2.map (fun n => trA c n.toNat) = ps ∧ ps.length ≤ 2 := by
  have p := h.pos
  have er := List.getElem?_eq_getElem (l := c) (i := c.length - 1) (by omega)
  have e := h.top
  rw [trA_at h.idx er] at e
  injection e with e1 e2
  have r := rowAt_eq er
  rw [r]
  exact ⟨e1, e2, by rw [← e2, List.length_map]; exact (h.idx _ _ er).1⟩
theorem TrU.part {nm : Str} {ps : List PT} {c : Tr} (h : TrU (.node nm ps) c) : ∀ p ∈ ps, TrU p (plT p) ∧ (plT p).length ≤ c.length := fun p hp => by
  obtain ⟨_, e2, _⟩ := h.row
  rw [← e2] at hp
  obtain ⟨n, hn, rfl⟩ := List.mem_map.1 hp
  have q := h.pos
  have er := List.getElem?_eq_getElem (l := c) (i := c.length - 1) (by omega)
  rw [rowAt_eq er] at hn
  have ix := (h.idx _ _ er).2 n hn
  have l : (c.take (n.toNat + 1)).length = n.toNat + 1 := by rw [List.length_take]; omega
  have f := h.few
  have t : TrU (trA c n.toNat) (c.take (n.toNat + 1)) := ⟨by omega, by omega, h.idx.take _, by rw [l, Nat.add_sub_cancel]; exact trA_take (by omega) (Nat.lt_succ_self _), fun r hr => h.name r (List.mem_of_mem_take hr)⟩
  have z := t.plain
  have pl := (plain_end t.idx t.pos).le
  rw [z.2] at pl
  rw [z.2] at z
  exact ⟨z.1, by omega⟩
theorem TrU.size {T : PT} {c : Tr} (h : TrU T c) : (treeD c).size ≤ 15001 := by
  have := tree_size h.idx
  have := h.few
  omega
/-! ### contracts -/
end Bk
set_option Elab.async false
set_option linter.all false
set_option maxRecDepth 100000
set_option maxHeartbeats 4000000
/-! Bk91: runs of letters -/
namespace Bk
open PySem PySem.Spec PyProof.Rows L2
/-! ### what stands open -/
def OpsAt (p F O : Addr) (H0 H : Hp) : Ops → List Addr → Prop
  | [], [] => True
  | (n, k) :: ops, a :: as => (H a = some (.lst [.str n, .int (k : Nat)]) ∧ a ≠ p ∧ a ≠ F ∧ a ≠ O ∧ H0 a = none ∧ a ∉ as) ∧ OpsAt p F O H0 H ops as
  | _, _ => False
section
variable {p F O : Addr} {H0 H H' : Hp}
theorem OpsAt.keep : ∀ {ops : Ops} {as : List Addr}, OpsAt p F O H0 H ops as → (∀ a, a ∈ as → a ≠ p → a ≠ F → a ≠ O → ∀ l, H a = some (.lst l) → H' a = some (.lst l)) → OpsAt p F O H0 H' ops as
  | [], [], h, _ => h
  | (n, k) :: ops, a :: as, h, q => ⟨⟨q a List.mem_cons_self h.1.2.1 h.1.2.2.1 h.1.2.2.2.1 _ h.1.1, h.1.2⟩, OpsAt.keep h.2 fun b hb => q b (List.mem_cons_of_mem _ hb)⟩
  | [], _ :: _, h, _ => h.elim
  | _ :: _, [], h, _ => h.elim
theorem OpsAt.len : ∀ {ops : Ops} {as : List Addr}, OpsAt p F O H0 H ops as → as.length = ops.length
  | [], [], h => rfl
  | (n, k) :: ops, a :: as, h => congrArg Nat.succ (OpsAt.len h.2)
  | [], _ :: _, h => h.elim
  | _ :: _, [], h => h.elim
theorem OpsAt.but {ops : Ops} {as : List Addr} (h : OpsAt p F O H0 H ops as) (b : But p H H') : OpsAt p F O H0 H' ops as := h.keep fun a _ n _ _ l e => b a _ n e
theorem OpsAt.ex {ops : Ops} {as : List Addr} (h : OpsAt p F O H0 H ops as) (b : Ex H H') : OpsAt p F O H0 H' ops as := h.keep fun a _ _ _ _ l e => b a _ e
theorem OpsAt.mem : ∀ {ops : Ops} {as : List Addr}, OpsAt p F O H0 H ops as → ∀ a ∈ as, ∃ l, H a = some (.lst l)
  | [], [], h, a, ha => nomatch ha
  | (n, k) :: ops, b :: as, h, a, ha => by
    rcases List.mem_cons.1 ha with rfl | ha
    · exact ⟨_, h.1.1⟩
    · exact OpsAt.mem h.2 a ha
  | [], _ :: _, h, _, _ => h.elim
  | _ :: _, [], h, _, _ => h.elim
theorem OpsAt.push {ops : Ops} {as : List Addr} {a : Addr} {n : Str} {k : Nat} (h : OpsAt p F O H0 H ops as) (ha : H a = none) (h1 : a ≠ p) (h2 : a ≠ F) (h3 : a ≠ O) (h4 : H0 a = none) : OpsAt p F O H0 (upd H a (.lst [.str n, .int (k : Nat)])) ((n, k) :: ops) (a :: as) :=
  ⟨⟨upd_same, h1, h2, h3, h4, fun z => by obtain ⟨l, e⟩ := h.mem a z; rw [ha] at e; cases e⟩, h.ex (Ex.new ha)⟩
end
theorem TxAt.tk {C : Addr} {H H' : Hp} {p : Addr} {z : Str} {b : Nat} (h : TxAt C H p z b) (e : But p H H') : Tk H H' := fun a xs ha => e a _ (fun y => by obtain ⟨dx, hh⟩ := h; rw [y, hh] at ha; cases ha) ha
theorem TxAt.ne {C : Addr} {H : Hp} {p q : Addr} {z : Str} {b : Nat} (h : TxAt C H p z b) (e : H q = none) : q ≠ p := fun y => by obtain ⟨dx, hh⟩ := h; rw [y, hh] at e; cases e
end Bk
set_option Elab.async false
set_option linter.all false
set_option maxRecDepth 100000
set_option maxHeartbeats 4000000
/-! Bk92: k13: letters, trees that are told in all forms -/
namespace Bk
open PySem PySem.Spec PyProof.Rows L2
/-! ### trees of a wood stand -/
end Bk
set_option Elab.async false
set_option linter.all false
set_option maxRecDepth 100000
set_option maxHeartbeats 4000000
/-! Bk93: k13: chains in a wood of two makers -/
namespace Bk
open PySem PySem.Spec PyProof.Rows L2
end Bk
set_option Elab.async false
set_option linter.all false
set_option maxRecDepth 100000
set_option maxHeartbeats 4000000
/-! Bk94: k11: the law's own parser; texts that do not close -/
namespace Bk
open PySem PySem.Spec PyProof.Rows L2
/-! ### runs -/
/-! ### what a turn's state tells -/
/-! ### one sign cut out -/
/-! ### what is spelled closes, and a name stands behind each opening -/
/-! ### the text of a chain -/
end Bk
set_option Elab.async false
set_option linter.all false
set_option maxRecDepth 100000
set_option maxHeartbeats 4000000
/-! Bk95: contracts of k11 -/
namespace Bk
open PySem PySem.Spec PyProof.Rows L2
theorem eqv_bls : ∀ xs ys : List Bool, PyData.eqvAll (D.pds (xs.map D.bl)) (D.pds (ys.map D.bl)) = decide (xs = ys)
  | [], [] => rfl
  | [], _ :: _ => rfl
  | _ :: _, [] => rfl
  | n :: ns, m :: ms => by
    have e : PyData.eqv (D.bl n).pd (D.bl m).pd = decide (n = m) := by cases n <;> cases m <;> rfl
    show (PyData.eqv (D.bl n).pd (D.bl m).pd && PyData.eqvAll (D.pds (ns.map D.bl)) (D.pds (ms.map D.bl))) = _
    rw [e, eqv_bls ns ms, Bool.eq_iff_iff]
    simp only [Bool.and_eq_true, decide_eq_true_eq, List.cons.injEq]
theorem blsReps {H : Hp} : ∀ xs : List Bool, Reps H (xs.map D.bl) (xs.map V.bl)
  | [] => rfl
  | x :: xs => ⟨_, _, rfl, rfl, blsReps xs⟩
theorem bls_sig (xs : List Bool) : (D.lst (xs.map D.bl)).Sig := sigs_map fun _ _ => trivial
theorem bls_dep (xs : List Bool) : (D.lst (xs.map D.bl)).dep ≤ 1 := by
  have e : D.deps (xs.map D.bl) = 0 := by
    induction xs with
    | nil => rfl
    | cons x xs ih =>
      show max (D.bl x).dep (D.deps (xs.map D.bl)) = 0
      rw [ih]
      rfl
  show D.deps (xs.map D.bl) + 1 ≤ 1
  rw [e]
  decide
theorem g_eqBs {K : PySem.W.Frag} {H : Hp} {Q : VK} {a b : Addr} {xs ys : List Bool} (ha : H a = some (.lst (xs.map V.bl))) (hb : H b = some (.lst (ys.map V.bl))) (q : Q (.bl (decide (xs = ys))) H) : rEqD K (.ref a) (.ref b) H Q := by
  refine ⟨_, _, Rep.dp (d := .lst (xs.map D.bl)) ⟨_, _, rfl, ha, blsReps xs⟩, Rep.dp (d := .lst (ys.map D.bl)) ⟨_, _, rfl, hb, blsReps ys⟩, D.shaped (bls_sig xs) (Nat.le_trans (bls_dep xs) (by decide)), D.shaped (bls_sig ys) (Nat.le_trans (bls_dep ys) (by decide)), ?_⟩
  have e : PyData.eqv (D.lst (xs.map D.bl)).pd (D.lst (ys.map D.bl)).pd = decide (xs = ys) := eqv_bls xs ys
  rw [e]
  exact q
/-! ### texts put together -/
/-! ### contracts -/
end Bk
set_option Elab.async false
set_option linter.all false
set_option maxRecDepth 100000
set_option maxHeartbeats 4000000
/-! Bk96: great ints: str, f-strings, int(text) up to 4,300 figures -/
namespace Bk
open PySem PySem.Spec PyProof.Rows L2
/-! ### rules -/
/-- what the written part says: the limit on figures is the usual one -/
structure Lim (K : PySem.W.Frag) : Prop where
  ok : PySem.W.nsOkIn K cStatics = true
  no : PySem.W.nsIn K cStatics "sys.int_max_str_digits" = some none
theorem Lim.none {K : PySem.W.Frag} {h : Heap} (L : Lim K) (X : K.In h) : h.NoDigits :=
  ⟨_, .of_isNs (PySem.W.isNs_of_in X L.ok), PySem.W.nsMap_none_of_in X L.ok L.no⟩
end Bk
set_option Elab.async false
set_option linter.all false
set_option maxRecDepth 100000
set_option maxHeartbeats 4000000
/-! Bk97: k02: fractions' texts by own reading -/
namespace Bk
open PySem PySem.Spec PyProof.Rows L2
/-! ### figures written back -/
theorem char_back {c : Nat} (h : 48 ≤ c ∧ c ≤ 57) : (Char.ofNat c).toNat = c := by
  have key : ∀ d, d < 10 → (Char.ofNat (48 + d)).toNat = 48 + d := by decide
  have := key (c - 48) (by omega)
  rw [show 48 + (c - 48) = c by omega] at this
  exact this
theorem num_digits {cs : List Nat} (h : NumText.AllDigits cs) (h1 : cs ≠ []) (h2 : cs.length = 1 ∨ cs.headD 0 ≠ 48) : numTL ((NumText.digitsVal cs : Nat) : Int) = cs := by
  have e := NumText.toDigits_digitsVal (cs.length - 1) cs (by have := List.length_pos_iff.2 h1; omega) h (by
    cases cs with
    | nil => exact absurd rfl h1
    | cons c r =>
      rcases h2 with h2 | h2
      · left; rw [h2]
      · right
        refine ⟨c, r, rfl, ?_⟩
        have := h c List.mem_cons_self
        have : c ≠ 48 := h2
        omega)
  rw [← numT_tl]
  have k := PySem.W.KIN.signs_num (NumText.digitsVal cs)
  refine (show (numT ((NumText.digitsVal cs : Nat) : Int)).cps.toList = _ from k).trans ?_
  rw [e, List.map_map]
  refine (List.map_congr_left (g := id) fun c hc => char_back (h c hc)).trans (List.map_id _)
theorem canon {s : Str} (h : isFigs s = true) : s = numT (intT s) ∧ 0 ≤ intT s ∧ (intT s).natAbs < 10 ^ 30 ∧ intText? s = some (intT s) := by
  obtain ⟨⟨l0, l1⟩, ad, hd⟩ := isFigs_iff.1 h
  have ne : s.cps.toList ≠ [] := fun e => by rw [str_len, e] at l0; exact absurd l0 (by decide)
  obtain ⟨i1, i2⟩ := int_digits ad ne (by omega)
  have h2 : s.cps.toList.length = 1 ∨ s.cps.toList.headD 0 ≠ 48 := by
    rcases hd with rfl | hd
    · left; decide +kernel
    · exact .inr hd
  refine ⟨str_ext ?_, ?_, ?_, i1⟩
  · rw [numT_tl, i2, num_digits ad ne h2]
  · rw [i2]; exact Int.natCast_nonneg _
  · rw [i2, Int.natAbs_natCast]
    refine Nat.lt_of_lt_of_le (digits_lt ad) (Nat.pow_le_pow_right (by decide) ?_)
    rw [← str_len]
    exact l1
/-! ### parted again -/
/-! ### contracts -/
end Bk
set_option Elab.async false
set_option linter.all false
set_option maxRecDepth 100000
set_option maxHeartbeats 4000000
/-! Bk98: own errors that stay as values: fields stored over any base -/
namespace Bk
open PySem PySem.Spec PyProof.Rows L2
section
open PySem.Builtin Builtin.ObjectAttr PySem.Calls
variable {prog : Program} {w : World} {A : Around} {E : Value → Shared → Prop} {R : Result → Shared → Prop} {hp : Heap} {g : Array GenState} {d : Drawn} {t : Nat} {os : OsState}
/-- what is asked of a class's mro so that its instances' fields are stored as usual -/
structure Stores (l : List Value) : Prop where
  goes : ∀ self : Value, refuseLoop self "__setattr__" l = pure ()
  base : l.contains (.type "object") = true
theorem Stores.ne {l : List Value} (h : Stores l) : l.isEmpty = false := by
  cases l with
  | nil => exact absurd h.base (by decide)
  | cons _ _ => rfl
theorem Stores.ref {l : List Value} (h : Stores l) (C : Addr) : Stores (.ref C :: l) :=
  ⟨fun self => by rw [refuseLoop_ref]; exact h.goes self, by rw [List.contains_cons, h.base, Bool.or_true]⟩
theorem stores_V : Stores [.type "ValueError", .type "Exception", .type "BaseException", .type "object"] := ⟨F.store_ValueError.passes, by decide +kernel⟩
theorem stores_I : Stores [.type "IndexError", .type "LookupError", .type "Exception", .type "BaseException", .type "object"] := ⟨fun self => by kernel_rfl, by decide +kernel⟩
theorem stores_K : Stores [.type "KeyError", .type "LookupError", .type "Exception", .type "BaseException", .type "object"] := ⟨fun self => by kernel_rfl, by decide +kernel⟩
theorem stores_Z : Stores [.type "ZeroDivisionError", .type "ArithmeticError", .type "Exception", .type "BaseException", .type "object"] := ⟨fun self => by kernel_rfl, by decide +kernel⟩
/-- the head of a store on an own error: it comes to its own dict -/
theorem osa_head {K : PySem.W.Frag} {name : Str} {tk : Tok} {v : Value} {x C : Addr} {o : Obj} {od : Option Obj} {cd : ClassData} {s : Shared}
    (X : K.In s.heap) (I : PySem.W.InstAt s.heap x o C od) (hcd : PySem.W.clsIn K C = some cd) (S : Stores cd.mro) (ha : PySem.W.findIn K (.ref C) name = some none)
    (q : wpAny (model prog w) A.in1 (storeInOwnDict (.ref x) (.ref C) (.str name tk) name v false) (fun fin s' => match fin with
      | .done f => R (.ok f) s'
      | .again c' => c'.quiet = true ∧ codeAny (model prog w) A c' R s') (fun e s' => R (.error e) s') s) :
    codeAny (model prog w) A (.call (.builtin "object.__setattr__") ⟨[.ref x, .str name tk, v], []⟩) R s := by
  have SF := F.store_object
  have hmro : PySem.W.mroIn K C (.type "object") = some true := by
    unfold PySem.W.mroIn
    rw [hcd, Option.bind_some, if_neg (by rw [S.ne]; decide), S.base]
  have sub : PySem.W.Looks (model prog w) s.heap (isInstance (.ref x) (.type "object")) true := I.type.andThen (PySem.W.looks_mroIn X hmro)
  refine codeAny_call_builtin SF.slot.plain SF.entry (@PySem.W.check_slot (model prog w) _ _ s "object.__setattr__" "object" "__setattr__" (.ref x) [.str name tk, v] [] _ SF.kind SF.split sub (SF.args (.ref x) (.str name tk) v) ?_)
  have lm : PySem.W.Looks (model prog w) s.heap (mroOf (.ref C)) cd.mro := (PySem.W.looks_clsIn X hcd).andThen .now
  have ls : PySem.W.Looks (model prog w) s.heap (storeTaker? none) none := .now
  rw [PySem.W.osa_eq, refuse_eq]
  refine wpAny_bind (wpAny_bind (I.type.at (wpAny_bind (lm.at ?_))))
  rw [S.goes]
  exact wpAny_pure (wpAny_bind (I.type.at (wpAny_bind ((PySem.W.looks_findIn X ha).at (wpAny_bind (ls.at q))))))
end
end Bk
set_option Elab.async false
set_option linter.all false
set_option maxRecDepth 100000
set_option maxHeartbeats 4000000
/-! Bk137: own errors as values: made over any built-in base, by place and by name; their fields; isinstance of them. -/
namespace Bk
open PySem PySem.Spec PyProof.Rows L2
section
open PySem.Builtin PySem.Calls PySem.W
/-- what is asked of a class's mro by the base's __new__ -/
structure NewOk (B : String) (bm : List Value) : Prop where
  has : bm.contains (.type B) = true
  noA : bm.contains (.type "AttributeError") = false
  noN : bm.contains (.type "NameError") = false
/-- a base's __init__ -/
structure IniF (B initId : String) : Prop where
  noStar : (B != "*") = true
  kind : builtinKind initId = some .slot
  split : splitId initId = some (B, "__init__")
  row : Manifest.signature? initId = some ⟨.positional, "*", B, .self, [⟨"args", .varPos, false⟩]⟩
  plain : plainId initId = true
  entry : entryFor table initId = some Builtin.«BaseException.__init__»
theorem IniF.of {B newId initId : String} {bmB : List Value} (F : ExcBaseFacts B newId initId bmB) : IniF B initId := ⟨F.noStar, F.initKind, F.initSplit, F.initRow, F.init.plain, F.initEntry⟩
theorem ini_K : IniF "KeyError" "KeyError.__init__" where
  noStar := by decide +kernel
  kind := by kernel_rfl
  split := by kernel_rfl
  row := by kernel_rfl
  plain := by decide +kernel
  entry := entryFor_alias (id' := "BaseException.__init__") (by rw [fastTable_eq_tree]; kernel_rfl) (by first | rfl | decide +kernel) (by decide +kernel) (by rw [fastTable_eq_tree]; kernel_rfl)
variable {prog : Program} {w : World} {A : Around} {E : Value → Shared → Prop} {R : Result → Shared → Prop} {h : Heap} {g : Array GenState} {d : Drawn} {t : Nat} {os : OsState}
variable {nm q : Str} {C N : Addr} {bs bm bmB : List Value} {hdct : Bool} {sn : List Str} {sub : List Value} {ab : Bool} {col : Option Bool} {dd : Option Addr} {k0 k1 k2 k3 k5 : Option Value} {B newId initId : String}
theorem chk_newE {M : Model} (F : ExcBaseFacts B newId initId bmB) (Z : NewOk B bm) {rest : List Value} {kw : List (Str × Value)} {Q : Unit → Shared → Prop}
    (hC : h.get? C = some (excClassObj nm q C N bs bm hdct sn sub ab col dd k0 k1 k2 k3 k5 newId)) (hq : Q () ⟨h, g, d, t, os⟩) : wpAny M A (checkBuiltinCall newId ⟨.ref C :: rest, kw⟩) Q E ⟨h, g, d, t, os⟩ := by
  have hcont : (Value.ref C :: bm).contains (.type B) = true := by rw [List.contains_cons, Z.has, Bool.or_true]
  have hstar := F.noStar
  simp only [checkBuiltinCall, F.newKind, F.newSplit, F.newRow]
  repeat (first | refine wpAny_loadPart_at hC ?_ | (refine wpAny_isSubtype_exc hC ?_; rw [hcont]) | refine wpAny_staticBase_exc hC ?_ | refine wpAny_madeBy_exc hC ?_ | simp only [bne_self_eq_false, Bool.false_eq_true, if_false] | wp_step)
  exact hq
theorem new_ownE (F : ExcBaseFacts B newId initId bmB) (Z : NewOk B bm) {rest : List Value} {kw : List (Str × Value)}
    (hC : h.get? C = some (excClassObj nm q C N bs bm hdct sn sub ab col dd k0 k1 k2 k3 k5 newId))
    (hq : R (.ok (.ret (.ref (h.objs.size + 1)))) ⟨(h.push { cls := .type "tuple", data := .seq rest.toArray }).push
      { cls := .ref C, data := .fields #[.ref h.objs.size, .none, .none, .none, .bool false, .none] }, g, d, t, os⟩) (hrest : rest.length ≤ sizeLine) :
    codeAny (model prog w) A (.builtin newId ⟨.ref C :: rest, kw⟩) R ⟨h, g, d, t, os⟩ := by
  have hends := F.ends
  have hcB : (Value.ref C :: bm).contains (.type B) = true := by rw [List.contains_cons, Z.has, Bool.or_true]
  have hcA : (Value.ref C :: bm).contains (.type "AttributeError") = false := by rw [List.contains_cons, Z.noA]; rfl
  have hcN : (Value.ref C :: bm).contains (.type "NameError") = false := by rw [List.contains_cons, Z.noN]; rfl
  refine codeAny_builtinAt F.entry ?_
  unfold Builtin.«BaseException.__new__»
  refine PySem.wpAt_bind ?_
  show PySem.wpAt _ _ _ (stack >>= _) _ _ _
  refine PySem.wpAt_bind (PySem.wpAt_stack fun p below => PySem.wpAt_of_wpAny ?_)
  wp_walk
  refine PySem.wpAt_of_wpAny ?_
  rw [F.owner]
  repeat (first | with_reducible refine wpAny_madeHere_exc F.canon hC ?_ | with_reducible refine wpAny_loadPart_at hC ?_ | (with_reducible refine wpAny_isSubtype_exc hC ?_; first | rw [hcB] | rw [hcA] | rw [hcN]) | wp_step)
  show R _ _
  rw [Heap.size_push]
  exact hq
theorem type_callE (F : ExcBaseFacts B newId initId bmB) (Z : NewOk B bm) {rest : List Value} {kw : List (Str × Value)} {fI : Addr} {Q : Fin → Shared → Prop}
    (hC : h.get? C = some (excClassObj nm q C N bs bm hdct sn sub ab col dd k0 k1 k2 k3 k5 newId))
    (hi : W.Looks (model prog w) h (typeLookup (.ref C) "__init__") (some (.ref fI))) (hb : ∀ self, W.Looks (model prog w) h (bindSpecial (.ref fI) self) (.ref fI, [self])) (hrest : rest.length ≤ sizeLine)
    (hq : codeAny (model prog w) A (.call (.ref fI) ⟨.ref (h.objs.size + 1) :: rest, kw⟩)
      (fun r s' => match r with | .ok (.ret v) => v = .none ∧ Q (.done (.ret (.ref (h.objs.size + 1)))) s' | .ok _ => False | .error e => E e s')
      ⟨(h.push (W.kdv_tup rest)).push (PySem.HandSPX.excO C h.objs.size), g, d, t, os⟩) :
    wpAny (model prog w) A (Builtin.«type.__call__» ⟨.ref C :: rest, kw⟩) Q E ⟨h, g, d, t, os⟩ := by
  repeat (first | with_reducible refine wpAny_loadPart_at hC ?_ | with_reducible refine wpAny_madeBy_exc hC ?_ | wp_step)
  refine codeAny_call_builtin_code (Code.quiet_builtin _ F.quiet) (chk_newE F Z hC ?_)
  refine new_ownE F Z hC ?_ hrest
  show wpAny _ _ _ _ _ _
  have k : ∀ b o, h.get? b = some o → ((h.push (W.kdv_tup rest)).push (PySem.HandSPX.excO C h.objs.size)).get? b = some o := fun b o e => Heap.get?_push_of_some _ (Heap.get?_push_of_some _ e)
  have hC₁ := k _ _ hC
  have hget : ((h.push (W.kdv_tup rest)).push (PySem.HandSPX.excO C h.objs.size)).get? (h.objs.size + 1) = some (PySem.HandSPX.excO C h.objs.size) := by heap_get
  have hcC : (Value.ref C :: bm).contains (.ref C) = true := by simp
  have i1 := hi.keeps k
  have b1 := (hb (.ref (h.objs.size + 1))).keeps k
  unfold isInstance
  repeat (first | with_reducible refine wpAny_loadPart_at hget ?_ | (with_reducible refine wpAny_isSubtype_exc hC₁ ?_; rw [hcC]) | wp_step)
  show wpAny _ _ (typeLookup (.ref C) _) _ _ _
  refine i1.at ?_
  refine wpAny_holding (wpAny_bind (b1.at ?_))
  refine wpAny_bind (wpAny_call (codeAny_mono hq fun r s' z => ?_))
  rcases r with e | (v | _ | _ | _) <;> first | exact z | exact z.elim | skip
  obtain ⟨rfl, z⟩ := z
  first
    | exact wpAny_pure (wpAny_pure z)
    | (wp_walk; exact z)
theorem chk_callE {M : Model} {rest : List Value} {kw : List (Str × Value)} {Q : Unit → Shared → Prop} (hC : h.get? C = some (excClassObj nm q C N bs bm hdct sn sub ab col dd k0 k1 k2 k3 k5 newId))
    (hq : Q () ⟨h, g, d, t, os⟩) : wpAny M A (checkBuiltinCall "type.__call__" ⟨.ref C :: rest, kw⟩) Q E ⟨h, g, d, t, os⟩ := by
  have f3 := tc_sub
  have hT : (⟨h, g, d, t, os⟩ : Shared).TypeIs (.ref C) "type" := ⟨_, hC, rfl⟩
  simp only [checkBuiltinCall, tc_kind, tc_split]
  repeat (any_goals (first | assumption | with_reducible refine wpAny_loadPart_at hC ?_ | with_reducible refine wpAny_onRaise ?_ | with_reducible refine wpAny_map ?_ | wp_step))
theorem call_ownE (F : ExcBaseFacts B newId initId bmB) (Z : NewOk B bm) {rest : List Value} {kw : List (Str × Value)} {fI : Addr}
    (hC : h.get? C = some (excClassObj nm q C N bs bm hdct sn sub ab col dd k0 k1 k2 k3 k5 newId))
    (hi : W.Looks (model prog w) h (typeLookup (.ref C) "__init__") (some (.ref fI))) (hb : ∀ self, W.Looks (model prog w) h (bindSpecial (.ref fI) self) (.ref fI, [self])) (hrest : rest.length ≤ sizeLine)
    (hq : codeAny (model prog w) (A.under (.builtin "type.__call__" ⟨.ref C :: rest, kw⟩)) (.call (.ref fI) ⟨.ref (h.objs.size + 1) :: rest, kw⟩) (W.InitBack (h.objs.size + 1) R)
      ⟨(h.push (W.kdv_tup rest)).push (PySem.HandSPX.excO C h.objs.size), g, d, t, os⟩) :
    codeAny (model prog w) A (.call (.ref C) ⟨rest, kw⟩) R ⟨h, g, d, t, os⟩ := by
  have f1 := tc_lookup
  have f2 := tc_bind (.ref C)
  have hTy : (⟨h, g, d, t, os⟩ : Shared).TypeIs (.ref C) "type" := ⟨_, hC, rfl⟩
  refine codeAny_of_tree ?_
  show wpAny _ _ (callAny (.ref C) _) _ _ _
  repeat (any_goals (first | assumption | with_reducible refine wpAny_loadPart_at hC ?_ | wp_step))
  refine ⟨rfl, ?_⟩
  refine codeAny_call_builtin_at (Code.quiet_builtin _ (by decide +kernel)) entry_typeCall (chk_callE hC (type_callE F Z hC hi hb hrest ?_))
  refine codeAny_mono hq fun r s' z => ?_
  rcases r with e | (v | _ | _ | _) <;> exact z
theorem chk_iniE {M : Model} (F : IniF B initId) (hB : bm.contains (.type B) = true) {e : Addr} {oe : Obj} {rest : List Value} {Q : Unit → Shared → Prop}
    (hC : h.get? C = some (excClassObj nm q C N bs bm hdct sn sub ab col dd k0 k1 k2 k3 k5 newId)) (he : h.get? e = some oe) (hcls : oe.cls = .ref C) (hq : Q () ⟨h, g, d, t, os⟩) :
    wpAny M A (checkBuiltinCall initId ⟨.ref e :: rest, []⟩) Q E ⟨h, g, d, t, os⟩ := by
  have hcB : (Value.ref C :: bm).contains (.type B) = true := by rw [List.contains_cons, hB, Bool.or_true]
  have hshort := F.noStar
  simp only [checkBuiltinCall, F.kind, F.split, F.row]
  repeat (first | (with_reducible refine wpAny_loadPart_at he ?_; rw [hcls]) | with_reducible refine wpAny_loadPart_at hC ?_ | (with_reducible refine wpAny_isSubtype_exc hC ?_; rw [hcB]) | wp_step)
  refine wpAny_onRaise ?_
  rw [show ∀ (a b : String) (n : Nat), Bind.check ⟨.positional, "*", B, .self, [⟨"args", .varPos, false⟩]⟩ a b n (List.map (fun x => x.fst) ({ pos := Value.ref e :: rest } : Args).kw) = pure () from
    fun a b n => check_star_args _ _ _ _ _ _]
  exact wpAny_pure hq
theorem ini_baseE (F : IniF B initId) (hB : bm.contains (.type B) = true) {e t0 : Addr} {rest : List Value}
    (hC : h.get? C = some (excClassObj nm q C N bs bm hdct sn sub ab col dd k0 k1 k2 k3 k5 newId)) (he : h.get? e = some (PySem.HandSPX.excO C t0)) (hrest : rest.length ≤ sizeLine)
    (hq : ∀ h' t1, (∀ b o, b ≠ e → h.get? b = some o → h'.get? b = some o) → h'.get? e = some (PySem.HandSPX.excO C t1) → R (.ok (.ret .none)) ⟨h', g, d, t, os⟩) :
    codeAny (model prog w) A (.call (.builtin initId) ⟨.ref e :: rest, []⟩) R ⟨h, g, d, t, os⟩ := by
  refine codeAny_call_builtin F.plain F.entry (chk_iniE F hB hC he rfl ?_)
  wp_walk
  refine hq _ h.objs.size (fun b o hb ho => ?_) ?_
  · rw [Heap.get?_update_other _ _ (Ne.symm hb)]
    exact Heap.get?_push_of_some _ ho
  · rw [Heap.get?_update_self _ (Heap.get?_push_of_some _ he) rfl]
    rfl
end
theorem NewOk.ref {B : String} {l : List Value} (h : NewOk B l) (C : Addr) : NewOk B (.ref C :: l) :=
  ⟨by rw [List.contains_cons, h.has, Bool.or_true], by rw [List.contains_cons, h.noA]; rfl, by rw [List.contains_cons, h.noN]; rfl⟩
theorem has_ref {l : List Value} {v : Value} {C : Addr} (h : l.contains v = true) : List.contains (.ref C :: l) v = true := by rw [List.contains_cons, h, Bool.or_true]
theorem newV : NewOk "ValueError" [.type "ValueError", .type "Exception", .type "BaseException", .type "object"] := ⟨by decide +kernel, by decide +kernel, by decide +kernel⟩
theorem newZ : NewOk "ZeroDivisionError" [.type "ZeroDivisionError", .type "ArithmeticError", .type "Exception", .type "BaseException", .type "object"] := ⟨by decide +kernel, by decide +kernel, by decide +kernel⟩
theorem newK : NewOk "LookupError" [.type "KeyError", .type "LookupError", .type "Exception", .type "BaseException", .type "object"] := ⟨by decide +kernel, by decide +kernel, by decide +kernel⟩
theorem newI : NewOk "IndexError" [.type "IndexError", .type "LookupError", .type "Exception", .type "BaseException", .type "object"] := ⟨by decide +kernel, by decide +kernel, by decide +kernel⟩
theorem hasV : List.contains [Value.type "ValueError", .type "Exception", .type "BaseException", .type "object"] (.type "ValueError") = true := by decide +kernel
theorem hasZ : List.contains [Value.type "ZeroDivisionError", .type "ArithmeticError", .type "Exception", .type "BaseException", .type "object"] (.type "ZeroDivisionError") = true := by decide +kernel
theorem hasK : List.contains [Value.type "KeyError", .type "LookupError", .type "Exception", .type "BaseException", .type "object"] (.type "KeyError") = true := by decide +kernel
theorem hasI : List.contains [Value.type "IndexError", .type "LookupError", .type "Exception", .type "BaseException", .type "object"] (.type "IndexError") = true := by decide +kernel
/-- what the written part says of an own error's class: newId its base's __new__ (B's), BI the built-in class whose __init__ it calls -/
structure OexS (K : PySem.W.Frag) (C : Addr) (B BI newId : String) : Prop where
  cls : ∃ nm q N bs bm sn sub ab col dd k0 k1 k2 k3 k5, K.lookup C = some (excClassObj nm q C N bs bm true sn sub ab col dd k0 k1 k2 k3 k5 newId) ∧ NewOk B bm ∧ bm.contains (.type BI) = true ∧ Stores bm
  sa : PySem.W.findIn K (.ref C) "__setattr__" = some (some (.builtin "object.__setattr__"))
  exC : PySem.W.subIn K (.ref C) (.type "BaseException") = some true
  tyC : PySem.W.typeIn K (.ref C) = some (.type "type")
  kC : PySem.W.keepIn K (.ref C) = true
section
open PySem.Builtin Builtin.ObjectAttr PySem.Calls
variable {prog : Program} {w : World} {A : Around} {E : Value → Shared → Prop} {R : Result → Shared → Prop} {hp : Heap} {g : Array GenState} {d : Drawn} {t : Nat} {os : OsState}
theorem osa_newS {K : PySem.W.Frag} {name : Str} {tk : Tok} {v : Value} {x C : Addr} {fv : Array Value} {cd : ClassData}
    (X : K.In hp) (hx : hp.get? x = some { cls := .ref C, data := .fields fv }) (hcd : PySem.W.clsIn K C = some cd) (hm : Stores cd.mro) (hh : cd.hasDict = true) (ha : PySem.W.findIn K (.ref C) name = some none)
    (hq : ∀ h' tk' dx, (∀ b o, b ≠ x → hp.get? b = some o → h'.get? b = some o) → hp.objs.size ≤ dx → dx ≠ x → h'.get? x = some { cls := .ref C, dict := some dx, data := .fields fv } →
      h'.Ns1 dx (fun y => if y = name then some v else none) → R (.ok (.ret .none)) ⟨h', g, d, tk', os⟩) :
    codeAny (model prog w) A (.call (.builtin "object.__setattr__") ⟨[.ref x, .str name tk, v], []⟩) R ⟨hp, g, d, t, os⟩ := by
  have I : PySem.W.InstAt hp x { cls := .ref C, data := .fields fv } C none := ⟨hx, rfl, rfl, trivial⟩
  have hxs : x ≠ hp.objs.size := Nat.ne_of_lt (Heap.lt_size hx)
  have hcls : PySem.W.Looks (model prog w) hp (classData C) cd := PySem.W.looks_clsIn X hcd
  refine osa_head X I hcd hm ha ?_
  obtain ⟨nm, bs, mro, ns, qn, hd, sn, sb, ab, col, del⟩ := cd
  dsimp only at hh
  subst hh
  unfold storeInOwnDict ownDictForStores
  repeat (first | with_reducible refine PySem.HandSPX.store_in_new ?_ ?_ | with_reducible refine wpAny_loadPart_at hx ?_ | with_reducible refine hcls.at ?_ | wp_step)
  · exact ⟨_, #[], _, (Heap.get?_update_ne _ _ _ _ hxs.symm).trans (Heap.get?_push_at rfl rfl), rfl, fun e he => absurd he (by simp), fun _ => rfl⟩
  · intro h' tk' hn' hs
    have hx₁ : (hp.push { cls := .type "dict", data := .dict #[] }).get? x = some { cls := .ref C, data := .fields fv } := Heap.get?_push_of_some _ hx
    refine hq h' tk' hp.objs.size (fun b o hb ho => ?_) (Nat.le_refl _) hxs.symm ?_ hn'
    · exact (hs.2 b (Nat.ne_of_lt (Heap.lt_size ho))).trans ((Heap.get?_update_ne _ _ _ _ hb).trans (Heap.get?_push_of_some _ ho))
    · exact (hs.2 x hxs).trans (Heap.get?_update_self _ hx₁ rfl)
theorem osa_oldS {K : PySem.W.Frag} {name : Str} {tk : Tok} {v : Value} {x C dx : Addr} {fv : Array Value} {cd : ClassData} {m0 : Str → Option Value} {nl : List Str}
    (X : K.In hp) (hx : hp.get? x = some { cls := .ref C, dict := some dx, data := .fields fv }) (hns : hp.Ns1 dx m0) (hw : Within m0 nl) (hz : nl.length ≤ 1000) (hcd : PySem.W.clsIn K C = some cd) (hm : Stores cd.mro) (hh : cd.hasDict = true)
    (ha : PySem.W.findIn K (.ref C) name = some none)
    (hq : ∀ h' tk', (∀ b o, b ≠ dx → hp.get? b = some o → h'.get? b = some o) → h'.Ns1 dx (fun y => if y = name then some v else m0 y) → R (.ok (.ret .none)) ⟨h', g, d, tk', os⟩) :
    codeAny (model prog w) A (.call (.builtin "object.__setattr__") ⟨[.ref x, .str name tk, v], []⟩) R ⟨hp, g, d, t, os⟩ := by
  obtain ⟨oD, esD, epD, hoD, hdD, _⟩ := hns.count hw
  have I : PySem.W.InstAt hp x { cls := .ref C, dict := some dx, data := .fields fv } C (some oD) := ⟨hx, rfl, rfl, hoD⟩
  have hcls : PySem.W.Looks (model prog w) hp (classData C) cd := PySem.W.looks_clsIn X hcd
  refine osa_head X I hcd hm ha ?_
  obtain ⟨nm, bs, mro, ns, qn, hd, sn, sb, ab, col, del⟩ := cd
  dsimp only at hh
  subst hh
  unfold storeInOwnDict ownDictForStores
  repeat (first | with_reducible refine PySem.OEX.store_in_old hns hw hz ?_ | with_reducible refine wpAny_loadPart_at hx ?_ | with_reducible refine hcls.at ?_ | wp_step)
  intro h' tk' hn' hs
  exact hq h' tk' (fun b o hb ho => (hs.2 b hb).trans ho) hn'
end
section
variable {X : Cx} {pins : List (Addr × Obj)} {σ : L2.St} {H : Hp} {s : Shared} {a C dx : Addr} {B BI newId initId : String} {bmB : List Value} {f : Str} {y : V} {u : Value} {fs : List (Str × V)} {A : Around} {E : Value → Shared → Prop}
theorem clsS {nm q : Str} {N : Addr} {bs bm : List Value} {sn : List Str} {sub : List Value} {ab : Bool} {col : Option Bool} {dd : Option Addr} {k0 k1 k2 k3 k5 : Option Value} {K : PySem.W.Frag} (hC : K.lookup C = some (excClassObj nm q C N bs bm true sn sub ab col dd k0 k1 k2 k3 k5 newId)) :
    PySem.W.clsIn K C = some { name := nm, bases := bs, mro := .ref C :: bm, ns := N, qualname := q, hasDict := true, slotNames := sn, subclasses := sub, abstract := ab, collection := col, hasDel := false } := by unfold PySem.W.clsIn; rw [hC] <;> rfl
/-- self.f = y, the first one -/
theorem ost_newS {Q : Unit → Shared → Prop} (T : OexS X.K C B BI newId) (I : Inv X pins σ H s) (e : H a = some (exo a C none)) (hno : PySem.W.findIn X.K (.ref C) f = some none) (ry : RelV y u)
    (h : ∀ dx s', H dx = none → dx ≠ a → Inv X pins σ (upd (upd H dx (exd dx [(f, y)])) a (exo a C (some dx))) s' → Q () s') : wpAny (model X.prog X.w) A (setAttr (.ref a) f u) Q E s := by
  obtain ⟨nm, q, N, bs, bm, sn, sub, ab, col, dd, k0, k1, k2, k3, k5, hC, hNew, hB, hbm⟩ := T.cls
  obtain ⟨t1, ho⟩ := exo_at I.hok e
  obtain ⟨hp, g, d, t, os⟩ := s
  refine PySem.W.set_plain I.kIn (ox := { cls := .ref C, dict := none, data := .fields #[.ref t1, .none, .none, .none, .bool false, .none] }) (od := none) ⟨ho, rfl, rfl, trivial⟩ T.sa ?_
  refine osa_newS I.kIn ho (clsS hC) (hbm.ref C) rfl hno (fun h' tk' dx k dn dne hx hn => ?_)
  have hnd : H dx = none := I.hok.fresh dn
  have nd : ∀ {b : Addr} {o : Obj}, hp.get? b = some o → b ≠ dx := fun {b o} q => Nat.ne_of_lt (Nat.lt_of_lt_of_le (Heap.lt_size q) dn)
  have na : ∀ {b : Addr}, H b = none → b ≠ a := fun {b} n z => by
    rw [z, e] at n
    cases n
  have Un1 : Un X.fs [] H (upd (upd H dx (exd dx [(f, y)])) a (exo a C (some dx))) hp h' := {
    keep := fun b o q n _ _ => k b o (na n) q
    slot := fun b o q n _ _ => ⟨o.slots, k b o (na n) q⟩
    free := fun b o q n _ => by rw [upd_ne (na n), upd_ne (nd q)]; exact n
    there := fun b o q _ => by
      by_cases hb : b = a
      · exact ⟨_, by rw [hb]; exact hx⟩
      · exact ⟨o, k b o hb q⟩
    tups := fun b xs q => by rw [upd_ne (at_ne e q exo_tup), upd_ne (ne_of_none q hnd)]; exact q
    frzs := fun b o v q => by rw [upd_ne (at_ne e q exo_frz), upd_ne (ne_of_none q hnd)]; exact q
    tbls := fun b ps q => ⟨#[], by rw [upd_ne (at_ne e q exo_tbl), upd_ne (ne_of_none q hnd), q]; simp⟩ }
  refine h dx _ hnd dne (I.un (t' := tk') Un1 fun b o q => ?_)
  by_cases hb : b = a
  · subst hb
    rw [upd_same] at q
    cases q
    exact exo_ok hx
  · rw [upd_ne hb] at q
    by_cases hd : b = dx
    · subst hd
      rw [upd_same] at q
      cases q
      exact exd_ok hn (relO_put (fs := []) ry fun g => True.intro)
    · rw [upd_ne hd] at q
      exact (I.hok b o q).stay (fun c v hc z => k c v (by
          rcases hc with hc | hc
          · rw [hc]
            exact hb
          · exact at_ne e hc exo_own) z)
        (fun c hc => by rw [upd_ne (at_ne e hc exo_own), upd_ne (ne_of_none hc hnd)]; exact hc) (fun c xs hc => by rw [upd_ne (at_ne e hc exo_tup), upd_ne (ne_of_none hc hnd)]; exact hc)
/-- self.f = y, a further one -/
theorem ost_oldS {Q : Unit → Shared → Prop} (T : OexS X.K C B BI newId) (I : Inv X pins σ H s) (e : H a = some (exo a C (some dx))) (ed : H dx = some (exd dx fs)) (hl : fs.length ≤ 900) (hno : PySem.W.findIn X.K (.ref C) f = some none) (ry : RelV y u)
    (h : ∀ s', Inv X pins σ (upd H dx (exd dx ((f, y) :: fs))) s' → Q () s') : wpAny (model X.prog X.w) A (setAttr (.ref a) f u) Q E s := by
  obtain ⟨nm, q, N, bs, bm, sn, sub, ab, col, dd, k0, k1, k2, k3, k5, hC, hNew, hB, hbm⟩ := T.cls
  obtain ⟨t1, ho⟩ := exo_at I.hok e
  obtain ⟨mA, hns, rel⟩ := exd_at I.hok ed
  have hw := within_of rel
  obtain ⟨hp, g, d, t, os⟩ := s
  obtain ⟨oD, _, _, hoD, _, _⟩ := hns.count hw
  refine PySem.W.set_plain I.kIn (ox := { cls := .ref C, dict := some dx, data := .fields #[.ref t1, .none, .none, .none, .bool false, .none] }) (od := some oD) ⟨ho, rfl, rfl, hoD⟩ T.sa ?_
  refine osa_oldS I.kIn ho hns hw (by rw [List.length_map]; omega) (clsS hC) (hbm.ref C) rfl hno (fun h' tk' k hn => ?_)
  have hd : ∃ o, h'.get? dx = some o := by
    obtain ⟨o, _, _, e', _⟩ := hn
    exact ⟨o, e'⟩
  exact h _ (I.write (t' := tk') (x := dx) (e := dx) (o := exd dx ((f, y) :: fs)) (by rw [ed]; exact True.intro) (.inl rfl) k hd (exd_ok hn (relO_put ry rel)))
/-- self.f = e -/
def tOsS (K : PySem.W.Frag) (B BI newId : String) (f : Str) (to te : TE) : TS := fun D σ H => te σ H fun y H1 => to σ H1 fun x H2 => ∃ a C : Addr, x = .ref a ∧ OexS K C B BI newId ∧ PySem.W.findIn K (.ref C) f = some none ∧
  ((H2 a = some (exo a C none) ∧ ∀ dx, H2 dx = none → dx ≠ a → D.nx σ (upd (upd H2 dx (exd dx [(f, y)])) a (exo a C (some dx)))) ∨
    ∃ (dx : Addr) (fs : List (Str × V)), H2 a = some (exo a C (some dx)) ∧ H2 dx = some (exd dx fs) ∧ fs.length ≤ 900 ∧ D.nx σ (upd H2 dx (exd dx ((f, y) :: fs))))
theorem ps_osS {o e : Expr} {to te : TE} {p' pos : Pos} (ho : PE X o to) (he : PE X e te) (hs : swapsWith e (some (.Attribute o f p')) pos.line X.env = pure false := by rfl) : PS X (.Assign [.Attribute o f p'] e pos) (tOsS X.K B BI newId f to te) := by
  refine ⟨fun pins s σ H D I h => ?_⟩
  refine plainObj_wpAny_Assign_Attribute (thn (he.run pins s σ H _ I h) fun v s1 ⟨y, H1, I1, r1, q1⟩ => thn (ho.run pins s1 σ H1 _ I1 q1) fun u s2 ⟨x, H2, I2, r2, a, C, ex, T, hno, q⟩ => ?_) hs
  subst ex
  obtain rfl : u = Value.ref a := r2
  rcases q with ⟨ea, q⟩ | ⟨dx, fs, ea, ed, hl, q⟩
  · exact ost_newS T I2 ea hno r1 fun dx s' n ne J => ⟨σ, _, J, q dx n ne⟩
  · exact ost_oldS T I2 ea ed hl hno r1 fun s' J => ⟨σ, _, J, q⟩
/-- BI.__init__(self, ..) over an error that has no dict as yet -/
theorem iniS_ok {us : List Value} {Q : Value → Shared → Prop} (F : IniF BI initId) (T : OexS X.K C B BI newId) (I : Inv X pins σ H s) (e : H a = some (exo a C none)) (hl : us.length ≤ sizeLine)
    (h : ∀ s', Inv X pins σ H s' → Q .none s') : wpAny (model X.prog X.w) A (call (.builtin initId) (.ref a :: us)) Q E s := by
  obtain ⟨nm, q, N, bs, bm, sn, sub, ab, col, dd, k0, k1, k2, k3, k5, hC, hNew, hB, hbm⟩ := T.cls
  obtain ⟨t1, ho⟩ := exo_at I.hok e
  obtain ⟨hp, g, d, t, os⟩ := s
  refine wpAny_call (ini_baseE F hB (I.kIn _ _ hC) ho hl fun h' t2 k hx => ?_)
  have J := I.write (t' := t) (x := a) (e := a) (o := exo a C none) (by rw [e]; exact True.intro) (.inl rfl) k ⟨_, hx⟩ (exo_ok hx)
  have eu : upd H a (exo a C none) = H := funext fun b => by
    by_cases hb : b = a
    · rw [hb, upd_same, e]
    · rw [upd_ne hb]
  rw [eu] at J
  exact h _ J
def uXSk (K : PySem.W.Frag) (B BI newId : String) : List V → Hp → VK → Prop := fun vs H1 Q => match vs with
  | .ref a :: ws => ∃ C, ws.length ≤ 1000 ∧ OexS K C B BI newId ∧ H1 a = some (exo a C none) ∧ Q .non H1
  | _ => False
def uXS (K : PySem.W.Frag) (B BI newId : String) (ta : TA) : TE := fun σ H Q => ta σ H fun vs H1 => uXSk K B BI newId vs H1 Q
theorem uXS_end {us : List Value} {vs : List V} {Q : VK} (F0 : IniF BI initId) (I : Inv X pins σ H s) (r : Vals vs us) (h : uXSk X.K B BI newId vs H Q) :
    wpAny (model X.prog X.w) X.A (call (.builtin initId) us) (EP X pins σ Q) X.xe s := by
  unfold uXSk at h
  split at h
  · obtain ⟨C, hl, T, ea, q⟩ := h
    cases r with
    | @cons _ u0 _ ur ra rw' =>
      obtain rfl : u0 = Value.ref _ := ra
      have hlen : ur.length ≤ sizeLine := by
        rw [← Paired.length rw', sizeLine_eq]
        omega
      exact iniS_ok F0 T I ea hlen fun s' J => ⟨.non, H, J, rfl, q⟩
  · exact h.elim
variable {e : Expr} {es : List Expr} {ta : TA} {p p1 p2 pos : Pos} {x : Str}
theorem pe_xinitSB {T : String} {pl : Sem Bool} (F : IniF BI initId) (ty : typeOf (.type T) = pure (.type "type")) (ns : Manifest.isStub T = false) (hg : Gl X x) (hm : X.mg x = none) (hv : bootBuiltins x = some (.type T))
    (vV : PySem.W.findCls X.K (.type T) (.type "type") "__init__" = some (.val (.builtin initId))) (hh : PySem.W.handedIn (.builtin initId) = true) (ha : PA X (e :: es) ta) (hn : x ≠ "__name__" := by decide) (hd : (x == ("__debug__" : Str)) = false := by decide)
    (hc : eval (.Call (.Attribute (.Name x p1) "__init__" p2) (e :: es) [] pos) X.env = (do
      let ov ← eval (.Name x p1) X.env
      standAt p2.atName
      let (f, first) ← holding [ov] (getMethod ov "__init__" pl)
      callWith pos f first (backTo pos (starEach (e :: es) X.env)) (backToKw pos (keywordEach [] X.env))) := by rfl)
    (he : starEach (e :: es) X.env = (false, eval e X.env) :: starEach es X.env := by rfl) (hpl : (backTo pos (starEach es X.env)).any (·.1) = false := by rfl) :
    PE X (.Call (.Attribute (.Name x p1) "__init__" p2) (e :: es) [] pos) (uXS X.K B BI newId ta) := by
  refine ⟨fun pins s σ H Q I h => ?_⟩
  refine PySem.W.methodCall_KW (ld_blt I hg hm hv ?_ hn hd) hc
  obtain ⟨m, fr⟩ := I.fr
  refine PySem.W.method_type fr I.ok.mod.kin ty ns vV hh ?_
  show wpAny _ _ (callWith pos (Value.builtin initId) [] (backTo pos (starEach (e :: es) X.env)) []) _ _ _
  refine PyProof.Rows.callWith_method1 (thn (ha.run pos pins _ σ H _ (I.tok _) h) fun us s1 z => ?_) he hpl
  obtain ⟨vs, H1, I1, r1, q⟩ := z
  exact uXS_end F I1 r1 q
theorem pe_xinitSO {D : Addr} {pl : Sem Bool} (F : IniF BI initId) (k : XiC X.K D initId) (hh : PySem.W.handedIn (.builtin initId) = true) (hg : Gl X x) (hm : X.mg x = some (.ref D)) (ha : PA X (e :: es) ta) (hd : (x == ("__debug__" : Str)) = false := by decide)
    (hc : eval (.Call (.Attribute (.Name x p1) "__init__" p2) (e :: es) [] pos) X.env = (do
      let ov ← eval (.Name x p1) X.env
      standAt p2.atName
      let (f, first) ← holding [ov] (getMethod ov "__init__" pl)
      callWith pos f first (backTo pos (starEach (e :: es) X.env)) (backToKw pos (keywordEach [] X.env))) := by rfl)
    (he : starEach (e :: es) X.env = (false, eval e X.env) :: starEach es X.env := by rfl) (hpl : (backTo pos (starEach es X.env)).any (·.1) = false := by rfl) :
    PE X (.Call (.Attribute (.Name x p1) "__init__" p2) (e :: es) [] pos) (uXS X.K B BI newId ta) := by
  refine ⟨fun pins s σ H Q I h => ?_⟩
  refine PySem.W.methodCall_KW (ld_glob I hg hm ?_ hd) hc
  refine PySem.W.method_cls I.kIn k.ga (PySem.W.cls_value I.kIn k.rd k.at_ hh ?_)
  show wpAny _ _ (callWith pos (Value.builtin initId) [] (backTo pos (starEach (e :: es) X.env)) []) _ _ _
  refine PyProof.Rows.callWith_method1 (thn (ha.run pos pins _ σ H _ (I.tok _) h) fun us s1 z => ?_) he hpl
  obtain ⟨vs, H1, I1, r1, q⟩ := z
  exact uXS_end F I1 r1 q
/-! ### made as a value -/
variable {CX : CXT} {k n : Nat} {fI : Addr} {fd : FuncData} {ps ks : List Str} {sp : Sp} {g : List Value → List Value → List Value} {gV : List V → List V → List V} {t tk : TA} {kws : List Keyword}
theorem run_mkS {Q : VK} {us ws : List Value} {vs zs : List V} (F : ExcBaseFacts B newId initId bmB) (T : OexS X.K C B BI newId) (iC : PySem.W.findIn X.K (.ref C) "__init__" = some (some (.ref fI))) (tI : PySem.W.typeIn X.K (.ref fI) = some (.type "function"))
    (F1 : FnOk X.prog X.w X.K X.mg X.base CX k fI fd ps sp) (hr : Room (k + 1) X.A) (hb : KBn X.K fd ps (n + 1) ks g gV) (hx : Passes CX X (fun _ _ _ => False)) (I : Inv X pins σ H s) (r : Vals vs us) (rz : Vals zs ws) (l1 : vs.length = n) (l2 : zs.length = ks.length) (hn : n ≤ 1000)
    (h : ∀ a, H a = none → sp (gV (.ref a :: vs) zs) (upd H a (exo a C none)) (fun v H2 => v = .non ∧ Q (.ref a) H2) (fun _ _ _ => False)) :
    wpAny (model X.prog X.w) X.A (call (.ref C) us (ks.zip ws)) (EP X pins σ Q) X.xe s := by
  obtain ⟨nm, q, N, bs, bm, sn, sub, ab, col, dd, k0, k1, k2, k3, k5, hC, hNew, hB, hbm⟩ := T.cls
  obtain ⟨hp, gg, dr, tt, os⟩ := s
  have hsz : hp.objs.size ≤ hp.objs.size + 1 := Nat.le_succ _
  have hq := h (hp.objs.size + 1) (I.hok.fresh hsz)
  have kk : ∀ b o, hp.get? b = some o → ((hp.push (PySem.W.kdv_tup us)).push (PySem.HandSPX.excO C hp.objs.size)).get? b = some o := fun b o e => Heap.get?_push_of_some _ (Heap.get?_push_of_some _ e)
  have hget : ((hp.push (PySem.W.kdv_tup us)).push (PySem.HandSPX.excO C hp.objs.size)).get? (hp.objs.size + 1) = some (PySem.HandSPX.excO C hp.objs.size) := by heap_get
  have I2 : Inv X pins σ (upd H (hp.objs.size + 1) (exo (hp.objs.size + 1) C none)) ⟨(hp.push (PySem.W.kdv_tup us)).push (PySem.HandSPX.excO C hp.objs.size), gg, dr, tt, os⟩ :=
    I.laid (t' := tt) (a := hp.objs.size + 1) (o := exo (hp.objs.size + 1) C none) (h' := (hp.push (PySem.W.kdv_tup us)).push (PySem.HandSPX.excO C hp.objs.size)) kk hsz (exo_ok hget)
  have r1 : Vals (V.ref (hp.objs.size + 1) :: vs) (Value.ref (hp.objs.size + 1) :: us) := .cons rfl r
  have r2 := hb.rel r1 rz
  have e1 : (Value.ref (hp.objs.size + 1) :: us).length = n + 1 := r1.length.symm.trans (congrArg Nat.succ l1)
  have e2 : ws.length = ks.length := rz.length.symm.trans l2
  have hus : us.length ≤ sizeLine := by
    rw [← Paired.length r, l1, sizeLine_eq]
    omega
  refine wpAny_call (call_ownE F hNew (I.kIn _ _ hC) (PySem.W.looks_findIn I.kIn iC) (fun self => PySem.W.bind_fn I.kIn self tI) hus
    (codeAny_mono (F1.run _ X.stack _ _ ⟨Value.ref (hp.objs.size + 1) :: us, ks.zip ws⟩ (g (Value.ref (hp.objs.size + 1) :: us) ws) _ _ (fun _ _ _ => False) (hr.make C us (ks.zip ws)) (I2.env0.make C us (ks.zip ws)) (hb.to _ (Value.ref (hp.objs.size + 1) :: us) ws I2.kIn e1 e2) r2 hq) fun r s' hq' => ?_))
  cases r with
  | error er => exact hx pins σ _ _ er s' I2 hq'
  | ok fl =>
    cases fl with
    | ret u =>
      obtain ⟨v, H', I3, rv, ev, q3⟩ := I2.after hq'
      subst ev
      exact ⟨rv, ⟨V.ref (hp.objs.size + 1), H', I3, rfl, q3⟩⟩
    | next => exact False.elim hq'
    | brk => exact False.elim hq'
    | cont => exact False.elim hq'
def tMkS (C : Addr) (n m : Nat) (sp : Sp) (gV : List V → List V → List V) (t tk : TA) : TE := fun σ H Q => t σ H fun vs H1 => tk σ H1 fun zs H2 => vs.length = n ∧ zs.length = m ∧
  ∀ a, H2 a = none → sp (gV (.ref a :: vs) zs) (upd H2 a (exo a C none)) (fun v H3 => v = .non ∧ Q (.ref a) H3) (fun _ _ _ => False)
/-- C(k = v, ..) -/
theorem pe_mkSK (F : ExcBaseFacts B newId initId bmB) (T : OexS X.K C B BI newId) (iC : PySem.W.findIn X.K (.ref C) "__init__" = some (some (.ref fI))) (tI : PySem.W.typeIn X.K (.ref fI) = some (.type "function"))
    (F1 : FnOk X.prog X.w X.K X.mg X.base CX k fI fd ps sp) (hr : Room (k + 1) X.A) (hb : KBn X.K fd ps 1 ks g gV) (hx : Passes CX X (fun _ _ _ => False)) (hg : Gl X x) (hm : X.mg x = some (.ref C)) (hkw : PK X kws tk)
    (hall : (backToKw pos (keywordEach kws X.env)).all (·.1.isSome) = true := by rfl) (hks : (backToKw pos (keywordEach kws X.env)).filterMap (·.1) = ks := by rfl) (hdb : (x == ("__debug__" : Str)) = false := by decide)
    (hpl : ((backTo pos (starEach [] X.env)).any (·.1) || (backToKw pos (keywordEach kws X.env)).any (·.1.isNone)) = false := by rfl) :
    PE X (.Call (.Name x p) [] kws pos) (tMkS C 0 ks.length sp gV tNil tk) := by
  refine ⟨fun pins s σ H Q I h => ?_⟩
  refine wpAny_Call_Name_kw (ld_glob I hg hm ?_ hdb)
  refine PySem.W.callWith_KW0 (h₀ := X.base) I.ok.mod.kin T.kC hall ?_ hpl
  refine thn (hkw.run pos pins s σ H _ I h) fun ws s2 ⟨zs, H2, I2, rz, l1, l2, q2⟩ => ⟨I2.kIn, ?_⟩
  rw [hks]
  exact run_mkS (us := []) (vs := []) F T iC tI F1 hr hb hx I2 .nil rz rfl l2 (Nat.zero_le _) q2
/-- C(e, ..) -/
theorem pe_mkS (F : ExcBaseFacts B newId initId bmB) (T : OexS X.K C B BI newId) (iC : PySem.W.findIn X.K (.ref C) "__init__" = some (some (.ref fI))) (tI : PySem.W.typeIn X.K (.ref fI) = some (.type "function"))
    (F1 : FnOk X.prog X.w X.K X.mg X.base CX k fI fd ps sp) (hr : Room (k + 1) X.A) (hb : KBn X.K fd ps (n + 1) [] g gV) (hx : Passes CX X (fun _ _ _ => False)) (hg : Gl X x) (hm : X.mg x = some (.ref C)) (ha : PA X (e :: es) t) (hn : n ≤ 1000)
    (hdb : (x == ("__debug__" : Str)) = false := by decide) (he : starEach (e :: es) X.env = (false, eval e X.env) :: starEach es X.env := by rfl) (hpl : (backTo pos (starEach es X.env)).any (·.1) = false := by rfl) :
    PE X (.Call (.Name x p) (e :: es) [] pos) (tMkS C n 0 sp gV t tNil) := by
  refine ⟨fun pins s σ H Q I h => ?_⟩
  refine wpAny_Call_Name_kw (ld_glob I hg hm ?_ hdb)
  refine PySem.W.callWith_K (h₀ := X.base) I.ok.mod.kin T.kC (thn (ha.run pos pins s σ H _ I h) fun us s1 ⟨vs, H1, I1, r1, l1, _, q1⟩ => ⟨I1.kIn, ?_⟩) he hpl
  exact run_mkS (us := us) (vs := vs) (ws := []) (zs := []) F T iC tI F1 hr hb hx I1 r1 .nil l1 rfl hn q1
/-- C() -/
theorem pe_mkS0 (F : ExcBaseFacts B newId initId bmB) (T : OexS X.K C B BI newId) (iC : PySem.W.findIn X.K (.ref C) "__init__" = some (some (.ref fI))) (tI : PySem.W.typeIn X.K (.ref fI) = some (.type "function"))
    (F1 : FnOk X.prog X.w X.K X.mg X.base CX k fI fd ps sp) (hr : Room (k + 1) X.A) (hb : KBn X.K fd ps 1 [] g gV) (hx : Passes CX X (fun _ _ _ => False)) (hg : Gl X x) (hm : X.mg x = some (.ref C))
    (hdb : (x == ("__debug__" : Str)) = false := by decide) : PE X (.Call (.Name x p) [] [] pos) (tMkS C 0 0 sp gV tNil tNil) := by
  refine ⟨fun pins s σ H Q I h => ?_⟩
  refine wpAny_Call_Name_kw (ld_glob I hg hm ?_ hdb)
  refine PySem.W.callWith_K0 I.kIn T.kC ?_
  exact run_mkS (us := []) (vs := []) (ws := []) (zs := []) F T iC tI F1 hr hb hx I .nil .nil rfl rfl (Nat.zero_le _) h.2.2
/-! ### raised -/
theorem pmk_S (F : ExcBaseFacts B newId initId bmB) (T : OexS X.K C B BI newId) (iC : PySem.W.findIn X.K (.ref C) "__init__" = some (some (.ref fI))) (tI : PySem.W.typeIn X.K (.ref fI) = some (.type "function"))
    (F1 : FnOk X.prog X.w X.K X.mg X.base CX k fI fd ps sp) (hr : Room (k + 1) X.A) (hb : Binds X.K fd ps []) (hx : Passes CX X (fun _ _ _ => False)) (hg : Gl X x) (hm : X.mg x = some (.ref C)) (ha : PA X (e :: es) ta)
    (hdb : (x == ("__debug__" : Str)) = false := by decide) (he : starEach (e :: es) X.env = (false, eval e X.env) :: starEach es X.env := by rfl) (hpl : (backTo pos (starEach es X.env)).any (·.1) = false := by rfl) :
    PMk X (.Call (.Name x p) (e :: es) [] pos) (tMkO C sp [] ta) := by
  intro pins s σ H Q I h
  obtain ⟨nm, q, N, bs, bm, sn, sub, ab, col, dd, k0, k1, k2, k3, k5, hC, hNew, hB, hbm⟩ := T.cls
  refine wpAny_Call_Name_kw (ld_glob I hg hm ?_ hdb)
  refine PySem.W.callWith_K (h₀ := X.base) I.ok.mod.kin T.kC (thn (ha.run pos pins s σ H _ I h) fun us s1 ⟨vs, H1, I1, r1, hz, q1⟩ => ⟨I1.kIn, ?_⟩) he hpl
  show wpAny _ _ (call (.ref C) us) _ _ _
  obtain ⟨hp, gg, dr, tt, os⟩ := s1
  have hsz : hp.objs.size ≤ hp.objs.size + 1 := Nat.le_succ _
  have hq := q1 (hp.objs.size + 1) (I1.hok.fresh hsz)
  have kk : ∀ b o, hp.get? b = some o → ((hp.push (PySem.W.kdv_tup us)).push (PySem.HandSPX.excO C hp.objs.size)).get? b = some o := fun b o e => Heap.get?_push_of_some _ (Heap.get?_push_of_some _ e)
  have hget : ((hp.push (PySem.W.kdv_tup us)).push (PySem.HandSPX.excO C hp.objs.size)).get? (hp.objs.size + 1) = some (PySem.HandSPX.excO C hp.objs.size) := by heap_get
  have I2 : Inv X pins σ (upd H1 (hp.objs.size + 1) (exo (hp.objs.size + 1) C none)) ⟨(hp.push (PySem.W.kdv_tup us)).push (PySem.HandSPX.excO C hp.objs.size), gg, dr, tt, os⟩ :=
    I1.laid (t' := tt) (a := hp.objs.size + 1) (o := exo (hp.objs.size + 1) C none) (h' := (hp.push (PySem.W.kdv_tup us)).push (PySem.HandSPX.excO C hp.objs.size)) kk hsz (exo_ok hget)
  have r2 : Vals (V.ref (hp.objs.size + 1) :: (vs ++ [])) (Value.ref (hp.objs.size + 1) :: (us ++ [])) := .cons rfl (r1.append .nil)
  have hl : (Value.ref (hp.objs.size + 1) :: us ++ []).length = ps.length := by
    have e := r2.length
    rw [F1.len _ _ _ _ hq] at e
    exact e.symm
  have hb2 := hb ⟨(hp.push (PySem.W.kdv_tup us)).push (PySem.HandSPX.excO C hp.objs.size), gg, dr, tt, os⟩ (Value.ref (hp.objs.size + 1) :: us) I2.kIn hl
  rw [List.cons_append] at hb2
  have hus : us.length ≤ sizeLine := by
    rw [← Paired.length r1, sizeLine_eq]
    omega
  refine wpAny_call (call_ownE F hNew (I1.kIn _ _ hC) (PySem.W.looks_findIn I1.kIn iC) (fun self => PySem.W.bind_fn I1.kIn self tI) hus
    (codeAny_mono (F1.run _ X.stack _ _ ⟨Value.ref (hp.objs.size + 1) :: us, []⟩ (Value.ref (hp.objs.size + 1) :: (us ++ [])) _ _ (fun _ _ _ => False) (hr.make C us []) (I2.env0.make C us []) hb2 r2 hq) fun r s' hq' => ?_))
  cases r with
  | error er => exact hx pins σ _ _ er s' I2 hq'
  | ok fl =>
    cases fl with
    | ret u =>
      obtain ⟨v, H2, os2, bare2, un2, hok2, rv, ev, d, fs, ea, ed, hd1, q2⟩ := hq'
      subst ev
      obtain ⟨h2, g2, d2, t2, os'⟩ := s'
      exact ⟨rv, mk_end (raises_own T.exC T.tyC) I1 hsz kk un2 hok2 os2 bare2 ea ed hd1 q2⟩
    | next => exact False.elim hq'
    | brk => exact False.elim hq'
    | cont => exact False.elim hq'
end
/-- how the arguments bind, by place and by name (no defaults) -/
theorem kb_fun {K : PySem.W.Frag} {x qual : Str} {st : Stmt} {f : Addr} {fd : FuncData} {ps : List Str} (F : Fun K x qual st f fd) (n : Nat) (ks : List Str) (g : {α : Type} → List α → List α → List α)
    (hrel : ∀ {vs zs : List V} {us ws : List Value}, Vals vs us → Vals zs ws → Vals (g vs zs) (g us ws))
    (h : ∀ (kV doc pm : Value) (an : Option Addr) (cdv ct : Value) (us ws : List Value), us.length = n → ws.length = ks.length → bindArgs (PySem.W.fnOf x qual (defArgs st) (defBody st) (defScope st) .none kV doc pm an cdv ct) ⟨us, ks.zip ws⟩ = pure (ps.zip (g us ws))) :
    KBn K fd ps n ks (fun us ws => g us ws) (fun vs zs => g vs zs) := by
  obtain ⟨oc, od, kV, doc, pm, an, cdv, ct, osl, rfl, lk, hcd⟩ := F.ex
  exact ⟨fun s us ws X l1 l2 => .of_eq (h kV doc pm an cdv ct us ws l1 l2), fun r1 r2 => hrel r1 r2⟩
/-! ### the object as a value -/
/-- at a: an error of class C with these fields -/
def EAt (H : Hp) (C : Addr) (fs : List (Str × V)) (a : Addr) : Prop := (fs = [] ∧ H a = some (exo a C none)) ∨ ∃ d, H a = some (exo a C (some d)) ∧ H d = some (exd d fs)
theorem EAt.ex {H H' : Hp} {C a : Addr} {fs : List (Str × V)} (h : EAt H C fs a) (e : Ex H H') : EAt H' C fs a := by
  rcases h with ⟨h1, h2⟩ | ⟨d, h1, h2⟩
  · exact .inl ⟨h1, e _ _ h2⟩
  · exact .inr ⟨d, e _ _ h1, e _ _ h2⟩
section
variable {X : Cx} {pins : List (Addr × Obj)} {σ : L2.St} {H : Hp} {s : Shared} {a C : Addr} {fs : List (Str × V)}
theorem EAt.inst (I : Inv X pins σ H s) (h : EAt H C fs a) : ∃ ox od, PySem.W.InstAt s.heap a ox C od := by
  rcases h with ⟨_, h⟩ | ⟨d, h, hd⟩
  · obtain ⟨t1, ho⟩ := exo_at I.hok h
    exact ⟨_, none, ho, rfl, rfl, trivial⟩
  · obtain ⟨t1, ho⟩ := exo_at I.hok h
    obtain ⟨mA, hns, rel⟩ := exd_at I.hok hd
    obtain ⟨od, hod, hl⟩ := lookIn_ns hns
    exact ⟨_, some od, ho, rfl, rfl, hod⟩
def uIsV (K : PySem.W.Frag) : List V → Hp → VK → Prop := fun xs H Q => ∃ a C fs c cv b, xs = [.ref a, c] ∧ EAt H C fs a ∧ ExcC K C ∧ (∀ u, RelV c u → u = cv) ∧ PySem.W.kitOne K (.ref C) cv = some b ∧ Q (.bl b) H
theorem uk_isV (K : PySem.W.Frag) (hK : X.K = K := by rfl) : CallR X (.builtin "isinstance") (uIsV K) := by
  subst hK
  intro pins s σ H xs us Q I r h
  obtain ⟨a, C, fs, c, cv, b, rfl, ea, EC, hcv, e, q⟩ := h
  obtain ⟨u1, u2, rfl, rx, rt⟩ := vals2 r
  cases (show u1 = Value.ref a from rx)
  obtain ⟨ox, od, J⟩ := ea.inst I
  have cl : (PySem.W.clsIn X.K C).isSome = true := by
    obtain ⟨cdD, hcD, _⟩ := PySem.W.any_some EC.hd
    rw [hcD]; rfl
  have Z := PySem.W.kitx_exc (x := a) (ox := ox) (od := od) cl EC.hg EC.hk EC.hs EC.ha EC.hn EC.ht EC.hm
  have ec := hcv _ rt
  subst ec
  exact PySem.W.kia_one Z I.kIn J e (fun z => nomatch z) fun tk => ⟨.bl b, H, I.kept (t' := tk) fun _ _ z => z, rfl, q⟩
/-- e.f of an error that is a value -/
def tXv (K : PySem.W.Frag) (f : Str) (te : TE) : TE := fun σ H Q => te σ H fun x H1 => ∃ a C fs v, x = .ref a ∧ EAt H1 C fs a ∧ XfC K C ∧ PySem.W.findIn K (.ref C) f = some none ∧ fs.lookup f = some v ∧ Q v H1
theorem pe_xv (K : PySem.W.Frag) {e : Expr} {te : TE} {pos : Pos} {n : Str} (he : PE X e te) (hK : X.K = K := by rfl) (hb : attributeBase e n X.env (eval e X.env) = eval e X.env := by rfl) :
    PE X (.Attribute e n pos) (tXv K n te) := by
  subst hK
  refine ⟨fun pins s σ H Q I h => ?_⟩
  refine attr_of hb (thn (he.run pins s σ H _ I h) fun u s1 hh => ?_)
  obtain ⟨x, H1, I1, rx, a, C, fs, v, ex, ea, T, hno, l, q⟩ := hh
  subst ex
  obtain rfl : u = Value.ref a := rx
  rcases ea with ⟨rfl, ea⟩ | ⟨d, ea, ed⟩
  · cases l
  · obtain ⟨t1, ho⟩ := exo_at I1.hok ea
    obtain ⟨mA, hns, hr⟩ := exd_at I1.hok ed
    obtain ⟨od, hod, hl⟩ := lookIn_ns hns
    obtain ⟨u, hu, ru⟩ := RelO.some_of (v := v) (o := mA n) (by rw [← l]; exact hr n)
    have J : PySem.W.InstAt s1.heap a _ C (some od) := ⟨ho, rfl, rfl, hod⟩
    exact HandSPX.exc_get I1.kIn J T.ga T.gg T.exC (PySem.W.findObj_own T.hdC hno rfl (by rw [hl, hu])) (handed_of ru) ⟨v, H1, I1.tok _, ru, q⟩
end
/-! ### what the __init__s do -/
def spS0 (K : PySem.W.Frag) (B BI newId : String) : Sp := fun vs H Q _ => ∃ (a C : Addr), vs = [.ref a] ∧ OexS K C B BI newId ∧ H a = some (exo a C none) ∧ Q .non H
def spS1 (K : PySem.W.Frag) (B BI newId : String) (f : Str) : Sp := fun vs H Q _ => ∃ (a C : Addr) (y : V), vs = [.ref a, y] ∧ OexS K C B BI newId ∧ PySem.W.findIn K (.ref C) f = some none ∧ H a = some (exo a C none) ∧
  ∀ dx, H dx = none → dx ≠ a → Q .non (upd (upd H dx (exd dx [(f, y)])) a (exo a C (some dx)))
def spS2 (K : PySem.W.Frag) (B BI newId : String) (f g : Str) : Sp := fun vs H Q _ => ∃ (a C : Addr) (y z : V), vs = [.ref a, y, z] ∧ OexS K C B BI newId ∧ PySem.W.findIn K (.ref C) f = some none ∧ PySem.W.findIn K (.ref C) g = some none ∧ H a = some (exo a C none) ∧
  ∀ dx, H dx = none → dx ≠ a → Q .non (upd (upd (upd H dx (exd dx [(f, y)])) a (exo a C (some dx))) dx (exd dx [(g, z), (f, y)]))
section
variable {K : PySem.W.Frag} {B BI newId : String} {C : Addr} {H1 : Hp} {Q : VK} {f g : Str} {y z : V}
theorem end_S0 {P : Addr → Hp → Prop} (o : OexS K C B BI newId) (h : ∀ a H', Ex H1 H' → EAt H' C [] a → P a H') :
    ∀ a, H1 a = none → spS0 K B BI newId [.ref a] (upd H1 a (exo a C none)) (fun v H2 => v = .non ∧ P a H2) (fun _ _ _ => False) :=
  fun a ha => ⟨a, C, rfl, o, upd_same, rfl, h a _ (Ex.new ha) (.inl ⟨rfl, upd_same⟩)⟩
theorem end_S1 {P : Addr → Hp → Prop} (o : OexS K C B BI newId) (n : PySem.W.findIn K (.ref C) f = some none) (h : ∀ a H', Ex H1 H' → EAt H' C [(f, y)] a → P a H') :
    ∀ a, H1 a = none → spS1 K B BI newId f [.ref a, y] (upd H1 a (exo a C none)) (fun v H2 => v = .non ∧ P a H2) (fun _ _ _ => False) := by
  refine fun a ha => ⟨a, C, y, rfl, o, n, upd_same, fun dx hdx ne => ⟨rfl, h a _ (fun b u hu => ?_) (.inr ⟨dx, upd_same, ?_⟩)⟩⟩
  · have nb : b ≠ a := ne_of_none hu ha
    have nd : b ≠ dx := fun e => by rw [e] at hu; rw [upd_ne ne, hu] at hdx; cases hdx
    rw [upd_ne nb, upd_ne nd, upd_ne nb]
    exact hu
  · rw [upd_ne ne, upd_same]
theorem end_S2 {P : Addr → Hp → Prop} (o : OexS K C B BI newId) (n : PySem.W.findIn K (.ref C) f = some none) (n2 : PySem.W.findIn K (.ref C) g = some none) (h : ∀ a H', Ex H1 H' → EAt H' C [(g, z), (f, y)] a → P a H') :
    ∀ a, H1 a = none → spS2 K B BI newId f g [.ref a, y, z] (upd H1 a (exo a C none)) (fun v H2 => v = .non ∧ P a H2) (fun _ _ _ => False) := by
  refine fun a ha => ⟨a, C, y, z, rfl, o, n, n2, upd_same, fun dx hdx ne => ⟨rfl, h a _ (fun b u hu => ?_) (.inr ⟨dx, ?_, upd_same⟩)⟩⟩
  · have nb : b ≠ a := ne_of_none hu ha
    have nd : b ≠ dx := fun e => by rw [e] at hu; rw [upd_ne ne, hu] at hdx; cases hdx
    rw [upd_ne nd, upd_ne nb, upd_ne nd, upd_ne nb]
    exact hu
  · rw [upd_ne (Ne.symm ne), upd_same]
end
end Bk
set_option Elab.async false
set_option linter.all false
set_option maxRecDepth 100000
set_option maxHeartbeats 4000000
/-! Bk138: contracts of k05. -/
namespace Bk
open PySem PySem.Spec PyProof.Rows L2
/-- the fields of the fourteen errors, the last one stored first -/
def fldS (k : Nat) (y z : V) : List (Str × V) := match k with
  | 0 => [("row", y)] | 1 => [("name", z), ("word", y)] | 2 => [("at", y)] | 3 => [("at", y)] | 4 => [("most", y)] | 5 => [("maker", z), ("word", y)] | 6 => [("at", y)]
  | 7 => [("maker", z), ("word", y)] | 8 => [("maker", z), ("word", y)] | 9 => [("rooms", y)] | 10 => [] | 11 => [] | 12 => [("name", y)] | 13 => [("box", y)] | _ => []
def spMadeS (cl : Nat → Addr) : Sp := fun vs H Q _ => ∃ (k : Nat) (y z : V), vs = [.int k, y, z] ∧ k < 14 ∧ ∀ a H', Ex H H' → EAt H' (cl k) (fldS k y z) a → Q (.ref a) H'
def spKindsS (cl : Nat → Addr) : Sp := fun vs H Q _ => ∃ (k : Nat) (a : Addr) (fs : List (Str × V)), vs = [.ref a] ∧ k < 14 ∧ EAt H (cl k) fs a ∧ ∀ p H', Ex H H' → H' p = some (.lst (((List.range 14).map fun j => decide (j = k)).map V.bl)) → Q (.ref p) H'
/-- the fourteen errors made with y, z -/
def MadeS (cl : Nat → Addr) (y z : V) (H : Hp) (L : Addr) (as : List Addr) : Prop := H L = some (.lst (as.map V.ref)) ∧ as.length = 14 ∧ ∀ i a, as[i]? = some a → EAt H (cl i) (fldS i y z) a
theorem MadeS.ex {cl : Nat → Addr} {y z : V} {H H' : Hp} {L : Addr} {as : List Addr} (h : MadeS cl y z H L as) (e : Ex H H') : MadeS cl y z H' L as := ⟨e _ _ h.1, h.2.1, fun i a x => (h.2.2 i a x).ex e⟩
/-- a thing of the law -/
structure Thg (d : D) : Prop where
  sig : d.Sig
  dep : d.dep ≤ 9
def spFieldsS (cl : Nat → Addr) : Sp := fun vs H Q _ => ∃ (L : Addr) (as : List Addr) (y z : V) (d e : D), vs = [.ref L, y, z] ∧ MadeS cl y z H L as ∧ Thg d ∧ Thg e ∧ Rep H d y ∧ Rep H e z ∧ ∀ H', Ex H H' → Q (.bl true) H'
def spTakenS : Sp := fun vs H Q _ => ∃ (y z : V) (d e : D), vs = [y, z] ∧ Thg d ∧ Thg e ∧ Rep H d y ∧ Rep H e z ∧ ∀ H', Ex H H' → Q (.bl true) H'
theorem thg_pair {d e : D} (h1 : Thg d) (h2 : Thg e) : (D.tup [d, e]).Sig ∧ (D.tup [d, e]).dep ≤ 20 := by
  have a := h1.dep
  have b := h2.dep
  refine ⟨⟨h1.sig, h2.sig, trivial⟩, ?_⟩
  simp only [D.dep, D.deps]
  omega
theorem rep_all {H : Hp} {d : D} {y : V} (r : Rep H d y) : ∀ n, Reps H (List.replicate n d) (List.replicate n y)
  | 0 => rfl
  | n + 1 => ⟨_, _, rfl, r, rep_all r n⟩
theorem sigs_all {d : D} (h : d.Sig) : ∀ n, D.Sigs (List.replicate n d)
  | 0 => trivial
  | n + 1 => ⟨h, sigs_all h n⟩
theorem deps_all {d : D} {m : Nat} (h : d.dep ≤ m) : ∀ n, D.deps (List.replicate n d) ≤ m + 1
  | 0 => by simp only [List.replicate, D.deps]; omega
  | n + 1 => by
    have := deps_all h n
    simp only [List.replicate, D.deps]
    omega
section
variable {H : Hp} {σ : L2.St} {Q : VK}
theorem g_mkS {C : Addr} {n m : Nat} {sp : Sp} {gV : List V → List V → List V} {t tk : TA} (h : t σ H fun vs H1 => tk σ H1 fun zs H2 => vs.length = n ∧ zs.length = m ∧
  ∀ a, H2 a = none → sp (gV (.ref a :: vs) zs) (upd H2 a (exo a C none)) (fun v H3 => v = .non ∧ Q (.ref a) H3) (fun _ _ _ => False)) : tMkS C n m sp gV t tk σ H Q := h
theorem g_mkO {C : Addr} {sp : Sp} {dvs : List V} {ta : TA} {Q : XK} (h : ta σ H fun vs H1 => vs.length ≤ 1000 ∧ ∀ a, H1 a = none → sp (.ref a :: (vs ++ dvs)) (upd H1 a (exo a C none))
  (fun v H2 => v = .non ∧ ∃ (d : Addr) (fs : List (Str × V)), H2 a = some (exo a C (some d)) ∧ H2 d = some (exd d fs) ∧ H1 d = none ∧ Q (.ref C) (some d) (upd (del H2 a) d (.xd fs))) (fun _ _ _ => False)) : tMkO C sp dvs ta σ H Q := h
theorem g_xv {K : PySem.W.Frag} {f : Str} {te : TE} (h : te σ H fun x H1 => ∃ a C fs v, x = .ref a ∧ EAt H1 C fs a ∧ XfC K C ∧ PySem.W.findIn K (.ref C) f = some none ∧ fs.lookup f = some v ∧ Q v H1) : tXv K f te σ H Q := h
theorem g_isV {K : PySem.W.Frag} {a C E : Addr} {fs : List (Str × V)} {b : Bool} (ea : EAt H C fs a) (ec : ExcC K C) (h : PySem.W.kitOne K (.ref C) (.ref E) = some b) (q : Q (.bl b) H) : uIsV K [.ref a, .ref E] H Q := ⟨a, C, fs, _, _, b, rfl, ea, ec, fun u z => z, h, q⟩
theorem g_isVT {K : PySem.W.Frag} {a C : Addr} {T : String} {fs : List (Str × V)} {b : Bool} (ea : EAt H C fs a) (ec : ExcC K C) (h : PySem.W.kitOne K (.ref C) (.type T) = some b) (q : Q (.bl b) H) : uIsV K [.ref a, .ty T] H Q := ⟨a, C, fs, _, _, b, rfl, ea, ec, fun u z => z, h, q⟩
/-- e.f -/
theorem g_xvO {K : PySem.W.Frag} {a C : Addr} {fs : List (Str × V)} {f : Str} {v : V} {P : V → Prop} (ea : EAt H C fs a) (c : ExcC K C) (n : PySem.W.findIn K (.ref C) f = some none) (l : fs.lookup f = some v) (q : P v) : ∃ a' C' fs' v', V.ref a = .ref a' ∧ EAt H C' fs' a' ∧ XfC K C' ∧ PySem.W.findIn K (.ref C') f = some none ∧ fs'.lookup f = some v' ∧ P v' := ⟨a, C, fs, v, rfl, ea, xfC c, n, l, q⟩
theorem g_atS {cl : Nat → Addr} {y z : V} {L : Addr} {as : List Addr} {K : PySem.W.Frag} (m : MadeS cl y z H L as) (i : Nat) (hi : i < 14) (q : ∀ a, EAt H (cl i) (fldS i y z) a → Q (.ref a) H) : uIx K (.ref L) (.int (i : Int)) H Q := by
  have hl : i < as.length := by rw [m.2.1]; exact hi
  have e : as[i]? = some as[i] := List.getElem?_eq_getElem hl
  refine g_ixL m.1 (v := .ref as[i]) (atI_nat ?_) (q _ (m.2.2 i _ e))
  rw [List.getElem?_map, e]
  rfl
theorem exm_ty2 {K : PySem.W.Frag} {C : Addr} {T : String} {b : Bool} (h1 : PySem.W.subIn K (.type T) (.type "BaseException") = some true) (h : PySem.W.subIn K (.ref C) (.type T) = some b) (hm : PySem.W.kitMeta T = true := by decide +kernel) : PySem.W.exmOne K (.ref C) (.type T) = some b := by
  unfold PySem.W.exmOne PySem.W.kitCls
  rw [h1]
  show (if (some true == some true) = true then (if PySem.W.kitMeta T = true then PySem.W.subIn K (.ref C) (.type T) else none) else none) = some b
  rw [if_pos (show (some true == some true) = true by decide), if_pos hm]
  exact h
theorem raise_ex {H1 : Hp} {a dx : Addr} {o p q r : HO} (ha : H1 a = none) (hdx : upd H1 a o dx = none) (ne : dx ≠ a) : Ex H1 (upd (del (upd (upd (upd H1 a o) dx p) a q) a) dx r) := fun b u hu => by
  have nb : b ≠ a := ne_of_none hu ha
  have nd : b ≠ dx := fun e => by rw [e] at hu; rw [upd_ne ne, hu] at hdx; cases hdx
  rw [upd_ne nd, del_ne nb, upd_ne nb, upd_ne nd, upd_ne nb]
  exact hu
theorem EAt.nw {H0 : Hp} {C a : Addr} {fs : List (Str × V)} (h : EAt H C fs a) (l : Ls H0 H) : EAt (Bk.nw H0 H) C fs a := by
  have k : ∀ {b : Addr} {o : HO}, H b = some o → (∀ xs, o ≠ .lst xs) → Bk.nw H0 H b = some o := fun {b o} hb hn => by
    rw [nw_at fun xs z => by
      obtain ⟨ys, hy⟩ := l b xs z
      rw [hb] at hy
      exact hn ys (Option.some.inj hy)]
    exact hb
  have ne : ∀ (xs : List V) (b C : Addr) (d : Option Addr), exo b C d ≠ .lst xs := fun xs b C d z => by
    have z' : HO.ext _ = HO.lst xs := z
    cases z'
  have ne2 : ∀ (xs : List V) (b : Addr) (fs : List (Str × V)), exd b fs ≠ .lst xs := fun xs b fs z => by
    have z' : HO.ext _ = HO.lst xs := z
    cases z'
  rcases h with ⟨h1, h2⟩ | ⟨d, h1, h2⟩
  · exact .inl ⟨h1, k h2 fun xs => ne xs _ _ _⟩
  · exact .inr ⟨d, k h1 fun xs => ne xs _ _ _, k h2 fun xs => ne2 xs _ _⟩
/-- (errors, the one, the other) -/
def ItErr (cl : Nat → Addr) (H : Hp) (x : V) : Prop := ∃ (t L : Addr) (as : List Addr) (y z : V) (d e : D), x = .ref t ∧ H t = some (.tup [.ref L, y, z]) ∧ MadeS cl y z H L as ∧ Thg d ∧ Thg e ∧ Rep H d y ∧ Rep H e z
theorem ItErr.ex {cl : Nat → Addr} {H H' : Hp} {x : V} (h : ItErr cl H x) (k : Ex H H') : ItErr cl H' x := by
  obtain ⟨t, L, as, y, z, d, e, h1, h2, h3, h4, h5, h6, h7⟩ := h
  exact ⟨t, L, as, y, z, d, e, h1, k _ _ h2, h3.ex k, h4, h5, h6.ex k, h7.ex k⟩
def aOf : V → Addr
  | .ref a => a
  | _ => 0
/-- what the comprehension has made -/
theorem made_of {cl : Nat → Addr} {y z : V} {H0 Ha H' : Hp} {D : Addr} {acc : List V} (l : Ls H0 Ha) (n : H0 D = none) (hD : H' D = some (.lst acc)) (hl : acc.length = 14)
    (hr : ∀ j v, acc[j]? = some v → ∃ a, v = .ref a ∧ EAt (Bk.nw (upd Ha D (.lst [])) H') (cl j) (fldS j y z) a) : MadeS cl y z (Bk.nw H0 H') D (acc.map aOf) := by
  have l2 : Ls H0 (upd Ha D (.lst [])) := fun a xs h => by
    obtain ⟨ys, hy⟩ := l a xs h
    exact ⟨ys, by rw [upd_ne (ne_of_none h n)]; exact hy⟩
  have e : (acc.map aOf).map V.ref = acc := by
    rw [List.map_map]
    apply List.ext_getElem?
    intro j
    rw [List.getElem?_map]
    cases hj : acc[j]? with
    | none => rfl
    | some v =>
      obtain ⟨a, rfl, _⟩ := hr j v hj
      rfl
  refine ⟨?_, by rw [List.length_map, hl], fun j a h => ?_⟩
  · rw [e]
    exact nw_new n hD
  · rw [List.getElem?_map] at h
    cases hj : acc[j]? with
    | none => rw [hj] at h; cases h
    | some v =>
      obtain ⟨b, rfl, hb⟩ := hr j v hj
      rw [hj] at h
      cases h
      exact hb.ex (nw_sub l2)
/-- the things of the law -/
def ThOk (H : Hp) (v : V) : Prop := ∃ d : D, Thg d ∧ d.hard = true ∧ Rep H d v
theorem ThOk.tk {H H' : Hp} {v : V} (h : ThOk H v) (t : Tk H H') : ThOk H' v := by
  obtain ⟨d, h1, h2, h3⟩ := h
  exact ⟨d, h1, h2, h3.tk t h2⟩
theorem xs_sig (n : Int) : ∀ c ∈ (repS "x" n).cps.toList, c < 0x110000 := by
  intro c hc
  have hc' : c ∈ (List.replicate n.toNat ("x" : Str).cps.toList).flatten := hc
  obtain ⟨l, hl, hcl⟩ := List.mem_flatten.1 hc'
  rw [(List.mem_replicate.1 hl).2] at hcl
  have : ∀ c ∈ ("x" : Str).cps.toList, c < 0x110000 := by decide
  exact this c hcl
theorem g_neBs {K : PySem.W.Frag} {H : Hp} {Q : VK} {a b : Addr} {xs ys : List Bool} (ha : H a = some (.lst (xs.map V.bl))) (hb : H b = some (.lst (ys.map V.bl))) (q : Q (.bl (!decide (xs = ys))) H) : rNeD K (.ref a) (.ref b) H Q := by
  refine ⟨_, _, Rep.dp (d := .lst (xs.map D.bl)) ⟨_, _, rfl, ha, blsReps xs⟩, Rep.dp (d := .lst (ys.map D.bl)) ⟨_, _, rfl, hb, blsReps ys⟩, D.shaped (bls_sig xs) (Nat.le_trans (bls_dep xs) (by decide)), D.shaped (bls_sig ys) (Nat.le_trans (bls_dep ys) (by decide)), ?_⟩
  have e : PyData.eqv (D.lst (xs.map D.bl)).pd (D.lst (ys.map D.bl)).pd = decide (xs = ys) := eqv_bls xs ys
  rw [e]
  exact q
end
end Bk
namespace Lw
open PySem PySem.Spec PyProof.Rows L2 Bk
local macro_rules | `(tactic| walk_at "side") => `(tactic| first | assumption | decide | omega | exact .inl (.inl ⟨by decide, by decide⟩) | exact .inl (.inr ⟨by decide, by decide⟩) | exact ⟨by decide, by decide, by decide⟩ | exact ⟨by decide, by decide⟩)
local macro_rules | `(tactic| walk_at "heap") => `(tactic| first | assumption | exact upd_same | (refine Eq.trans (upd_ne (ne_of_none (by assumption) (by assumption))) ?_; assumption))
local macro_rules | `(tactic| walk_at "go1") => `(tactic| with_reducible first
  | refine g_seq ?_ | refine g_asg ?_ | refine g_ret ?_ | refine g_retN ?_ | refine g_drop ?_ | refine g_ifs ?_ | refine g_next ?_ | refine g_par ?_ | refine g_pair ?_ | refine g_name ?_ | refine g_sub ?_
  | refine g_c ?_ | refine g_op ?_ | refine g_un ?_ | refine g_cons ?_ | refine g_nil ?_ | refine g_cb ?_ | refine g_call ?_ | refine g_if ?_ | refine g_iT ?_ | refine g_iF ?_ | refine g_iNT ?_ | refine g_iNF ?_ | refine g_notV ?_ | refine g_not ?_ | refine g_and ?_ | refine g_or ?_
  | refine g_uT ?_ | refine g_test ?_ | refine g_tB ?_ | refine g_bl ?_ | refine g_chain ?_ | refine g_andV ?_ | refine g_orV ?_ | refine g_tbl ?_ | refine g_tin ?_ | refine g_addI ?_ | refine g_i0 ?_ | refine g_neg ?_ | refine g_eqI ?_ | refine g_neI ?_ | refine g_eqS ?_ | refine g_neS ?_ | refine g_neBB ?_ | refine g_neB ?_ | refine g_lz ?_ | refine g_bmS ?_ | refine g_tyStr ?_ | refine g_tyS ?_ | refine g_dnew ?_ | refine g_lcU ?_ | refine g_yes ?_ | refine g_dg ?_ | refine g_di ?_ | refine g_dni ?_ | refine g_dp ?_ | refine g_ds ?_ | refine g_for ?_ | refine g_rng1 ?_ | refine g_rng2 ?_ | refine g_zipA ?_ | refine g_sl ?_ | refine g_noP ?_ | refine g_part ?_ | refine g_exI ?_ | refine g_isNn ?_ | refine g_isNr ?_ | refine g_isNi ?_ | refine g_notNn ?_ | refine g_notNr ?_ | refine g_notNi ?_
  | refine g_abs ?_ | refine g_max ?_ | refine g_min ?_ | refine g_intI ?_ | refine g_intB ?_ | refine g_tup ?_ | refine g_lst ?_ | refine g_bm0 ?_ | refine g_bm ?_ | refine g_uJs ?_ | refine g_js ?_ | refine g_jn ?_ | refine g_fmt ?_)
local macro_rules | `(tactic| walk_at "go2") => `(tactic| first
  | refine g_var rfl ?_ | ((with_reducible apply g_iS); (· walk_at "side"))
  | ((with_reducible apply g_lenL); (· assumption)) | ((with_reducible apply g_lenT); (· assumption)) | ((with_reducible apply g_lenSq); (· assumption))
  | ((with_reducible apply g_ixL); (· assumption); (· rfl)) | ((with_reducible apply g_ixT); (· assumption); (· rfl))
  | ((with_reducible apply g_tyL); (· assumption)))
local macro_rules | `(tactic| walk_at "go") => `(tactic| repeat (first | walk_at "go1" | walk_at "go2"))
def top (i : Nat) : Stmt := PySem.Challenge.pw_boughkept_k05_refusals.main.body.getD i (.Pass ⟨0, 0, 0, 0⟩)
abbrev sI_NoText : Stmt := inClass (top 2) 0
theorem scI_NoText : FnScope ["self", "row"] ["self", "row"] (defScope sI_NoText) := ⟨rfl, rfl, rfl, by decide +kernel, rfl, by decide +kernel, by decide +kernel⟩
abbrev sI_NoWood : Stmt := inClass (top 3) 0
theorem scI_NoWood : FnScope ["self", "word", "name"] ["self", "word", "name"] (defScope sI_NoWood) := ⟨rfl, rfl, rfl, by decide +kernel, rfl, by decide +kernel, by decide +kernel⟩
abbrev sI_NoTree : Stmt := inClass (top 4) 0
theorem scI_NoTree : FnScope ["self", "at"] ["self", "at"] (defScope sI_NoTree) := ⟨rfl, rfl, rfl, by decide +kernel, rfl, by decide +kernel, by decide +kernel⟩
abbrev sI_NoWord : Stmt := inClass (top 5) 0
theorem scI_NoWord : FnScope ["self", "at"] ["self", "at"] (defScope sI_NoWord) := ⟨rfl, rfl, rfl, by decide +kernel, rfl, by decide +kernel, by decide +kernel⟩
abbrev sI_TooLong : Stmt := inClass (top 6) 0
theorem scI_TooLong : FnScope ["self", "most"] ["self", "most"] (defScope sI_TooLong) := ⟨rfl, rfl, rfl, by decide +kernel, rfl, by decide +kernel, by decide +kernel⟩
abbrev sI_NoReader : Stmt := inClass (top 7) 0
theorem scI_NoReader : FnScope ["self", "word", "maker"] ["self", "word", "maker"] (defScope sI_NoReader) := ⟨rfl, rfl, rfl, by decide +kernel, rfl, by decide +kernel, by decide +kernel⟩
abbrev sI_NoFit : Stmt := inClass (top 8) 0
theorem scI_NoFit : FnScope ["self", "at"] ["self", "at"] (defScope sI_NoFit) := ⟨rfl, rfl, rfl, by decide +kernel, rfl, by decide +kernel, by decide +kernel⟩
abbrev sI_NoPrinter : Stmt := inClass (top 9) 0
theorem scI_NoPrinter : FnScope ["self", "word", "maker"] ["self", "word", "maker"] (defScope sI_NoPrinter) := ⟨rfl, rfl, rfl, by decide +kernel, rfl, by decide +kernel, by decide +kernel⟩
abbrev sI_NoTurner : Stmt := inClass (top 10) 0
theorem scI_NoTurner : FnScope ["self", "word", "maker"] ["self", "word", "maker"] (defScope sI_NoTurner) := ⟨rfl, rfl, rfl, by decide +kernel, rfl, by decide +kernel, by decide +kernel⟩
abbrev sI_TooWide : Stmt := inClass (top 11) 0
theorem scI_TooWide : FnScope ["self", "rooms"] ["self", "rooms"] (defScope sI_TooWide) := ⟨rfl, rfl, rfl, by decide +kernel, rfl, by decide +kernel, by decide +kernel⟩
abbrev sI_NoRow : Stmt := inClass (top 12) 0
theorem scI_NoRow : FnScope ["self"] ["self"] (defScope sI_NoRow) := ⟨rfl, rfl, rfl, by decide +kernel, rfl, by decide +kernel, by decide +kernel⟩
abbrev sI_Nought : Stmt := inClass (top 13) 0
theorem scI_Nought : FnScope ["self"] ["self"] (defScope sI_Nought) := ⟨rfl, rfl, rfl, by decide +kernel, rfl, by decide +kernel, by decide +kernel⟩
abbrev sI_NotKept : Stmt := inClass (top 14) 0
theorem scI_NotKept : FnScope ["self", "name"] ["self", "name"] (defScope sI_NotKept) := ⟨rfl, rfl, rfl, by decide +kernel, rfl, by decide +kernel, by decide +kernel⟩
abbrev sI_NoBox : Stmt := inClass (top 15) 0
theorem scI_NoBox : FnScope ["self", "box"] ["self", "box"] (defScope sI_NoBox) := ⟨rfl, rfl, rfl, by decide +kernel, rfl, by decide +kernel, by decide +kernel⟩
abbrev s_law_box : Stmt := top 17
theorem sc_law_box : FnScope ["_law_script", "_law_k", "_law_cell", "_law_seed"] ["_law_script", "_law_k"] (defScope s_law_box) := ⟨rfl, rfl, rfl, by decide +kernel, rfl, by decide +kernel, by decide +kernel⟩
abbrev s_law_take : Stmt := top 18
theorem sc_law_take : FnScope ["_law_draw", "_law_many", "_law_digit", "_law_one"] ["_law_draw", "_law_many"] (defScope s_law_take) := ⟨rfl, rfl, rfl, by decide +kernel, rfl, by decide +kernel, by decide +kernel⟩
abbrev s_law_made : Stmt := top 19
theorem sc_law_made : FnScope ["_law_k", "_law_one", "_law_other", "_law_some"] ["_law_k", "_law_one", "_law_other"] (defScope s_law_made) := ⟨rfl, rfl, rfl, by decide +kernel, rfl, by decide +kernel, by decide +kernel⟩
abbrev s_law_named : Stmt := top 20
theorem sc_law_named : FnScope ["_law_k", "_law_one", "_law_other", "_law_some"] ["_law_k", "_law_one", "_law_other"] (defScope s_law_named) := ⟨rfl, rfl, rfl, by decide +kernel, rfl, by decide +kernel, by decide +kernel⟩
abbrev s_law_kinds : Stmt := top 21
theorem sc_law_kinds : FnScope ["_law_e", "_law_some"] ["_law_e"] (defScope s_law_kinds) := ⟨rfl, rfl, rfl, by decide +kernel, rfl, by decide +kernel, by decide +kernel⟩
abbrev s_law_fields : Stmt := top 22
theorem sc_law_fields : FnScope ["_law_some", "_law_one", "_law_other", "_law_found"] ["_law_some", "_law_one", "_law_other"] (defScope s_law_fields) := ⟨rfl, rfl, rfl, by decide +kernel, rfl, by decide +kernel, by decide +kernel⟩
abbrev s_law_taken : Stmt := top 23
theorem sc_law_taken : FnScope ["_law_one", "_law_other", "_law_found", "_law_e"] ["_law_one", "_law_other"] (defScope s_law_taken) := ⟨rfl, rfl, rfl, by decide +kernel, rfl, by decide +kernel, by decide +kernel⟩
abbrev s_law : Stmt := top 24
abbrev N_law : List Str := ["_law_script", "_law_draw", "_law_things", "_law_made_here", "_law_one", "_law_other", "_law_some", "_law_k", "_law_e", "_law_low", "_law_sorts", "_law_j"]
theorem sc_law : FnScope ["_law_script", "_law_draw", "_law_things", "_law_made_here", "_law_one", "_law_other", "_law_some", "_law_k", "_law_e", "_law_low", "_law_sorts", "_law_j"] ["_law_script"] (defScope s_law) := ⟨rfl, rfl, rfl, by decide +kernel, rfl, by decide +kernel, by decide +kernel⟩
structure Txt (K : PySem.W.Frag) (mg : Str → Option Value) where
  a_BoughError : Addr
  m_BoughError : mg "BoughError" = some (.ref a_BoughError)
  x_BoughError : OexB K a_BoughError "ValueError.__new__" [.type "ValueError", .type "Exception", .type "BaseException", .type "object"]
  e_BoughError : PySem.W.exmOne K (.ref a_BoughError) (.ref a_BoughError) = some true
  c_BoughError : ExcC K a_BoughError
  i0_BoughError : PySem.W.isClsIn K a_BoughError = true
  t0_BoughError : PySem.W.typeIn K (.ref a_BoughError) = some (.type "type")
  s0_BoughError : PySem.W.subIn K (.ref a_BoughError) (.ref a_BoughError) = some true
  h_BoughError : XiC K a_BoughError "ValueError.__init__"
  a_NoText : Addr
  m_NoText : mg "NoText" = some (.ref a_NoText)
  x_NoText : OexB K a_NoText "ValueError.__new__" [.type "ValueError", .type "Exception", .type "BaseException", .type "object"]
  e_NoText : PySem.W.exmOne K (.ref a_NoText) (.ref a_NoText) = some true
  c_NoText : ExcC K a_NoText
  i0_NoText : PySem.W.isClsIn K a_NoText = true
  t0_NoText : PySem.W.typeIn K (.ref a_NoText) = some (.type "type")
  s0_NoText : PySem.W.subIn K (.ref a_NoText) (.ref a_NoText) = some true
  os_NoText : OexS K a_NoText "ValueError" "ValueError" "ValueError.__new__"
  aI_NoText : Addr
  dI_NoText : FuncData
  FI_NoText : Fun K "__init__" "NoText.__init__" sI_NoText aI_NoText dI_NoText
  bI_NoText : Binds K dI_NoText ["self", "row"] []
  i_NoText : PySem.W.findIn K (.ref a_NoText) "__init__" = some (some (.ref aI_NoText))
  t_NoText : PySem.W.typeIn K (.ref aI_NoText) = some (.type "function")
  n_NoText_row : PySem.W.findIn K (.ref a_NoText) "row" = some none
  a_NoWood : Addr
  m_NoWood : mg "NoWood" = some (.ref a_NoWood)
  x_NoWood : OexB K a_NoWood "ValueError.__new__" [.type "ValueError", .type "Exception", .type "BaseException", .type "object"]
  e_NoWood : PySem.W.exmOne K (.ref a_NoWood) (.ref a_NoWood) = some true
  c_NoWood : ExcC K a_NoWood
  i0_NoWood : PySem.W.isClsIn K a_NoWood = true
  t0_NoWood : PySem.W.typeIn K (.ref a_NoWood) = some (.type "type")
  s0_NoWood : PySem.W.subIn K (.ref a_NoWood) (.ref a_NoWood) = some true
  os_NoWood : OexS K a_NoWood "ValueError" "ValueError" "ValueError.__new__"
  aI_NoWood : Addr
  dI_NoWood : FuncData
  FI_NoWood : Fun K "__init__" "NoWood.__init__" sI_NoWood aI_NoWood dI_NoWood
  bI_NoWood : Binds K dI_NoWood ["self", "word", "name"] []
  i_NoWood : PySem.W.findIn K (.ref a_NoWood) "__init__" = some (some (.ref aI_NoWood))
  t_NoWood : PySem.W.typeIn K (.ref aI_NoWood) = some (.type "function")
  n_NoWood_word : PySem.W.findIn K (.ref a_NoWood) "word" = some none
  n_NoWood_name : PySem.W.findIn K (.ref a_NoWood) "name" = some none
  a_NoTree : Addr
  m_NoTree : mg "NoTree" = some (.ref a_NoTree)
  x_NoTree : OexB K a_NoTree "ValueError.__new__" [.type "ValueError", .type "Exception", .type "BaseException", .type "object"]
  e_NoTree : PySem.W.exmOne K (.ref a_NoTree) (.ref a_NoTree) = some true
  c_NoTree : ExcC K a_NoTree
  i0_NoTree : PySem.W.isClsIn K a_NoTree = true
  t0_NoTree : PySem.W.typeIn K (.ref a_NoTree) = some (.type "type")
  s0_NoTree : PySem.W.subIn K (.ref a_NoTree) (.ref a_NoTree) = some true
  os_NoTree : OexS K a_NoTree "ValueError" "ValueError" "ValueError.__new__"
  aI_NoTree : Addr
  dI_NoTree : FuncData
  FI_NoTree : Fun K "__init__" "NoTree.__init__" sI_NoTree aI_NoTree dI_NoTree
  bI_NoTree : Binds K dI_NoTree ["self", "at"] []
  i_NoTree : PySem.W.findIn K (.ref a_NoTree) "__init__" = some (some (.ref aI_NoTree))
  t_NoTree : PySem.W.typeIn K (.ref aI_NoTree) = some (.type "function")
  n_NoTree_at : PySem.W.findIn K (.ref a_NoTree) "at" = some none
  a_NoWord : Addr
  m_NoWord : mg "NoWord" = some (.ref a_NoWord)
  x_NoWord : OexB K a_NoWord "ValueError.__new__" [.type "ValueError", .type "Exception", .type "BaseException", .type "object"]
  e_NoWord : PySem.W.exmOne K (.ref a_NoWord) (.ref a_NoWord) = some true
  c_NoWord : ExcC K a_NoWord
  i0_NoWord : PySem.W.isClsIn K a_NoWord = true
  t0_NoWord : PySem.W.typeIn K (.ref a_NoWord) = some (.type "type")
  s0_NoWord : PySem.W.subIn K (.ref a_NoWord) (.ref a_NoWord) = some true
  os_NoWord : OexS K a_NoWord "ValueError" "ValueError" "ValueError.__new__"
  aI_NoWord : Addr
  dI_NoWord : FuncData
  FI_NoWord : Fun K "__init__" "NoWord.__init__" sI_NoWord aI_NoWord dI_NoWord
  bI_NoWord : Binds K dI_NoWord ["self", "at"] []
  i_NoWord : PySem.W.findIn K (.ref a_NoWord) "__init__" = some (some (.ref aI_NoWord))
  t_NoWord : PySem.W.typeIn K (.ref aI_NoWord) = some (.type "function")
  n_NoWord_at : PySem.W.findIn K (.ref a_NoWord) "at" = some none
  a_TooLong : Addr
  m_TooLong : mg "TooLong" = some (.ref a_TooLong)
  x_TooLong : OexB K a_TooLong "ValueError.__new__" [.type "ValueError", .type "Exception", .type "BaseException", .type "object"]
  e_TooLong : PySem.W.exmOne K (.ref a_TooLong) (.ref a_TooLong) = some true
  c_TooLong : ExcC K a_TooLong
  i0_TooLong : PySem.W.isClsIn K a_TooLong = true
  t0_TooLong : PySem.W.typeIn K (.ref a_TooLong) = some (.type "type")
  s0_TooLong : PySem.W.subIn K (.ref a_TooLong) (.ref a_TooLong) = some true
  os_TooLong : OexS K a_TooLong "ValueError" "ValueError" "ValueError.__new__"
  aI_TooLong : Addr
  dI_TooLong : FuncData
  FI_TooLong : Fun K "__init__" "TooLong.__init__" sI_TooLong aI_TooLong dI_TooLong
  bI_TooLong : Binds K dI_TooLong ["self", "most"] []
  i_TooLong : PySem.W.findIn K (.ref a_TooLong) "__init__" = some (some (.ref aI_TooLong))
  t_TooLong : PySem.W.typeIn K (.ref aI_TooLong) = some (.type "function")
  n_TooLong_most : PySem.W.findIn K (.ref a_TooLong) "most" = some none
  a_NoReader : Addr
  m_NoReader : mg "NoReader" = some (.ref a_NoReader)
  x_NoReader : OexB K a_NoReader "ValueError.__new__" [.type "ValueError", .type "Exception", .type "BaseException", .type "object"]
  e_NoReader : PySem.W.exmOne K (.ref a_NoReader) (.ref a_NoReader) = some true
  c_NoReader : ExcC K a_NoReader
  i0_NoReader : PySem.W.isClsIn K a_NoReader = true
  t0_NoReader : PySem.W.typeIn K (.ref a_NoReader) = some (.type "type")
  s0_NoReader : PySem.W.subIn K (.ref a_NoReader) (.ref a_NoReader) = some true
  os_NoReader : OexS K a_NoReader "ValueError" "ValueError" "ValueError.__new__"
  aI_NoReader : Addr
  dI_NoReader : FuncData
  FI_NoReader : Fun K "__init__" "NoReader.__init__" sI_NoReader aI_NoReader dI_NoReader
  bI_NoReader : Binds K dI_NoReader ["self", "word", "maker"] []
  i_NoReader : PySem.W.findIn K (.ref a_NoReader) "__init__" = some (some (.ref aI_NoReader))
  t_NoReader : PySem.W.typeIn K (.ref aI_NoReader) = some (.type "function")
  n_NoReader_word : PySem.W.findIn K (.ref a_NoReader) "word" = some none
  n_NoReader_maker : PySem.W.findIn K (.ref a_NoReader) "maker" = some none
  a_NoFit : Addr
  m_NoFit : mg "NoFit" = some (.ref a_NoFit)
  x_NoFit : OexB K a_NoFit "ValueError.__new__" [.type "ValueError", .type "Exception", .type "BaseException", .type "object"]
  e_NoFit : PySem.W.exmOne K (.ref a_NoFit) (.ref a_NoFit) = some true
  c_NoFit : ExcC K a_NoFit
  i0_NoFit : PySem.W.isClsIn K a_NoFit = true
  t0_NoFit : PySem.W.typeIn K (.ref a_NoFit) = some (.type "type")
  s0_NoFit : PySem.W.subIn K (.ref a_NoFit) (.ref a_NoFit) = some true
  os_NoFit : OexS K a_NoFit "ValueError" "ValueError" "ValueError.__new__"
  aI_NoFit : Addr
  dI_NoFit : FuncData
  FI_NoFit : Fun K "__init__" "NoFit.__init__" sI_NoFit aI_NoFit dI_NoFit
  bI_NoFit : Binds K dI_NoFit ["self", "at"] []
  i_NoFit : PySem.W.findIn K (.ref a_NoFit) "__init__" = some (some (.ref aI_NoFit))
  t_NoFit : PySem.W.typeIn K (.ref aI_NoFit) = some (.type "function")
  n_NoFit_at : PySem.W.findIn K (.ref a_NoFit) "at" = some none
  a_NoPrinter : Addr
  m_NoPrinter : mg "NoPrinter" = some (.ref a_NoPrinter)
  x_NoPrinter : OexB K a_NoPrinter "ValueError.__new__" [.type "ValueError", .type "Exception", .type "BaseException", .type "object"]
  e_NoPrinter : PySem.W.exmOne K (.ref a_NoPrinter) (.ref a_NoPrinter) = some true
  c_NoPrinter : ExcC K a_NoPrinter
  i0_NoPrinter : PySem.W.isClsIn K a_NoPrinter = true
  t0_NoPrinter : PySem.W.typeIn K (.ref a_NoPrinter) = some (.type "type")
  s0_NoPrinter : PySem.W.subIn K (.ref a_NoPrinter) (.ref a_NoPrinter) = some true
  os_NoPrinter : OexS K a_NoPrinter "ValueError" "ValueError" "ValueError.__new__"
  aI_NoPrinter : Addr
  dI_NoPrinter : FuncData
  FI_NoPrinter : Fun K "__init__" "NoPrinter.__init__" sI_NoPrinter aI_NoPrinter dI_NoPrinter
  bI_NoPrinter : Binds K dI_NoPrinter ["self", "word", "maker"] []
  i_NoPrinter : PySem.W.findIn K (.ref a_NoPrinter) "__init__" = some (some (.ref aI_NoPrinter))
  t_NoPrinter : PySem.W.typeIn K (.ref aI_NoPrinter) = some (.type "function")
  n_NoPrinter_word : PySem.W.findIn K (.ref a_NoPrinter) "word" = some none
  n_NoPrinter_maker : PySem.W.findIn K (.ref a_NoPrinter) "maker" = some none
  a_NoTurner : Addr
  m_NoTurner : mg "NoTurner" = some (.ref a_NoTurner)
  x_NoTurner : OexB K a_NoTurner "ValueError.__new__" [.type "ValueError", .type "Exception", .type "BaseException", .type "object"]
  e_NoTurner : PySem.W.exmOne K (.ref a_NoTurner) (.ref a_NoTurner) = some true
  c_NoTurner : ExcC K a_NoTurner
  i0_NoTurner : PySem.W.isClsIn K a_NoTurner = true
  t0_NoTurner : PySem.W.typeIn K (.ref a_NoTurner) = some (.type "type")
  s0_NoTurner : PySem.W.subIn K (.ref a_NoTurner) (.ref a_NoTurner) = some true
  os_NoTurner : OexS K a_NoTurner "ValueError" "ValueError" "ValueError.__new__"
  aI_NoTurner : Addr
  dI_NoTurner : FuncData
  FI_NoTurner : Fun K "__init__" "NoTurner.__init__" sI_NoTurner aI_NoTurner dI_NoTurner
  bI_NoTurner : Binds K dI_NoTurner ["self", "word", "maker"] []
  i_NoTurner : PySem.W.findIn K (.ref a_NoTurner) "__init__" = some (some (.ref aI_NoTurner))
  t_NoTurner : PySem.W.typeIn K (.ref aI_NoTurner) = some (.type "function")
  n_NoTurner_word : PySem.W.findIn K (.ref a_NoTurner) "word" = some none
  n_NoTurner_maker : PySem.W.findIn K (.ref a_NoTurner) "maker" = some none
  a_TooWide : Addr
  m_TooWide : mg "TooWide" = some (.ref a_TooWide)
  x_TooWide : OexB K a_TooWide "ValueError.__new__" [.type "ValueError", .type "Exception", .type "BaseException", .type "object"]
  e_TooWide : PySem.W.exmOne K (.ref a_TooWide) (.ref a_TooWide) = some true
  c_TooWide : ExcC K a_TooWide
  i0_TooWide : PySem.W.isClsIn K a_TooWide = true
  t0_TooWide : PySem.W.typeIn K (.ref a_TooWide) = some (.type "type")
  s0_TooWide : PySem.W.subIn K (.ref a_TooWide) (.ref a_TooWide) = some true
  os_TooWide : OexS K a_TooWide "ValueError" "ValueError" "ValueError.__new__"
  aI_TooWide : Addr
  dI_TooWide : FuncData
  FI_TooWide : Fun K "__init__" "TooWide.__init__" sI_TooWide aI_TooWide dI_TooWide
  bI_TooWide : Binds K dI_TooWide ["self", "rooms"] []
  i_TooWide : PySem.W.findIn K (.ref a_TooWide) "__init__" = some (some (.ref aI_TooWide))
  t_TooWide : PySem.W.typeIn K (.ref aI_TooWide) = some (.type "function")
  n_TooWide_rooms : PySem.W.findIn K (.ref a_TooWide) "rooms" = some none
  a_NoRow : Addr
  m_NoRow : mg "NoRow" = some (.ref a_NoRow)
  x_NoRow : OexB K a_NoRow "ValueError.__new__" [.type "ValueError", .type "Exception", .type "BaseException", .type "object"]
  e_NoRow : PySem.W.exmOne K (.ref a_NoRow) (.ref a_NoRow) = some true
  c_NoRow : ExcC K a_NoRow
  i0_NoRow : PySem.W.isClsIn K a_NoRow = true
  t0_NoRow : PySem.W.typeIn K (.ref a_NoRow) = some (.type "type")
  s0_NoRow : PySem.W.subIn K (.ref a_NoRow) (.ref a_NoRow) = some true
  os_NoRow : OexS K a_NoRow "ValueError" "ValueError" "ValueError.__new__"
  aI_NoRow : Addr
  dI_NoRow : FuncData
  FI_NoRow : Fun K "__init__" "NoRow.__init__" sI_NoRow aI_NoRow dI_NoRow
  bI_NoRow : Binds K dI_NoRow ["self"] []
  i_NoRow : PySem.W.findIn K (.ref a_NoRow) "__init__" = some (some (.ref aI_NoRow))
  t_NoRow : PySem.W.typeIn K (.ref aI_NoRow) = some (.type "function")
  a_Nought : Addr
  m_Nought : mg "Nought" = some (.ref a_Nought)
  x_Nought : OexB K a_Nought "ZeroDivisionError.__new__" [.type "ZeroDivisionError", .type "ArithmeticError", .type "Exception", .type "BaseException", .type "object"]
  e_Nought : PySem.W.exmOne K (.ref a_Nought) (.ref a_Nought) = some true
  c_Nought : ExcC K a_Nought
  i0_Nought : PySem.W.isClsIn K a_Nought = true
  t0_Nought : PySem.W.typeIn K (.ref a_Nought) = some (.type "type")
  s0_Nought : PySem.W.subIn K (.ref a_Nought) (.ref a_Nought) = some true
  os_Nought : OexS K a_Nought "ZeroDivisionError" "ZeroDivisionError" "ZeroDivisionError.__new__"
  aI_Nought : Addr
  dI_Nought : FuncData
  FI_Nought : Fun K "__init__" "Nought.__init__" sI_Nought aI_Nought dI_Nought
  bI_Nought : Binds K dI_Nought ["self"] []
  i_Nought : PySem.W.findIn K (.ref a_Nought) "__init__" = some (some (.ref aI_Nought))
  t_Nought : PySem.W.typeIn K (.ref aI_Nought) = some (.type "function")
  a_NotKept : Addr
  m_NotKept : mg "NotKept" = some (.ref a_NotKept)
  x_NotKept : OexB K a_NotKept "LookupError.__new__" [.type "KeyError", .type "LookupError", .type "Exception", .type "BaseException", .type "object"]
  e_NotKept : PySem.W.exmOne K (.ref a_NotKept) (.ref a_NotKept) = some true
  c_NotKept : ExcC K a_NotKept
  i0_NotKept : PySem.W.isClsIn K a_NotKept = true
  t0_NotKept : PySem.W.typeIn K (.ref a_NotKept) = some (.type "type")
  s0_NotKept : PySem.W.subIn K (.ref a_NotKept) (.ref a_NotKept) = some true
  os_NotKept : OexS K a_NotKept "LookupError" "KeyError" "LookupError.__new__"
  aI_NotKept : Addr
  dI_NotKept : FuncData
  FI_NotKept : Fun K "__init__" "NotKept.__init__" sI_NotKept aI_NotKept dI_NotKept
  bI_NotKept : Binds K dI_NotKept ["self", "name"] []
  i_NotKept : PySem.W.findIn K (.ref a_NotKept) "__init__" = some (some (.ref aI_NotKept))
  t_NotKept : PySem.W.typeIn K (.ref aI_NotKept) = some (.type "function")
  n_NotKept_name : PySem.W.findIn K (.ref a_NotKept) "name" = some none
  a_NoBox : Addr
  m_NoBox : mg "NoBox" = some (.ref a_NoBox)
  x_NoBox : OexB K a_NoBox "IndexError.__new__" [.type "IndexError", .type "LookupError", .type "Exception", .type "BaseException", .type "object"]
  e_NoBox : PySem.W.exmOne K (.ref a_NoBox) (.ref a_NoBox) = some true
  c_NoBox : ExcC K a_NoBox
  i0_NoBox : PySem.W.isClsIn K a_NoBox = true
  t0_NoBox : PySem.W.typeIn K (.ref a_NoBox) = some (.type "type")
  s0_NoBox : PySem.W.subIn K (.ref a_NoBox) (.ref a_NoBox) = some true
  os_NoBox : OexS K a_NoBox "IndexError" "IndexError" "IndexError.__new__"
  aI_NoBox : Addr
  dI_NoBox : FuncData
  FI_NoBox : Fun K "__init__" "NoBox.__init__" sI_NoBox aI_NoBox dI_NoBox
  bI_NoBox : Binds K dI_NoBox ["self", "box"] []
  i_NoBox : PySem.W.findIn K (.ref a_NoBox) "__init__" = some (some (.ref aI_NoBox))
  t_NoBox : PySem.W.typeIn K (.ref aI_NoBox) = some (.type "function")
  n_NoBox_box : PySem.W.findIn K (.ref a_NoBox) "box" = some none
  v_IndexError : PySem.W.findCls K (.type "IndexError") (.type "type") "__init__" = some (.val (.builtin "IndexError.__init__"))
  v_KeyError : PySem.W.findCls K (.type "KeyError") (.type "type") "__init__" = some (.val (.builtin "KeyError.__init__"))
  v_ValueError : PySem.W.findCls K (.type "ValueError") (.type "type") "__init__" = some (.val (.builtin "ValueError.__init__"))
  v_ZeroDivisionError : PySem.W.findCls K (.type "ZeroDivisionError") (.type "type") "__init__" = some (.val (.builtin "ZeroDivisionError.__init__"))
  a_law_box : Addr
  d_law_box : FuncData
  m_law_box : mg "_law_box" = some (.ref a_law_box)
  b_law_box : Binds K d_law_box ["_law_script", "_law_k"] []
  F_law_box : Fun K "_law_box" "_law_box" s_law_box a_law_box d_law_box
  a_law_take : Addr
  d_law_take : FuncData
  m_law_take : mg "_law_take" = some (.ref a_law_take)
  b_law_take : Binds K d_law_take ["_law_draw", "_law_many"] []
  F_law_take : Fun K "_law_take" "_law_take" s_law_take a_law_take d_law_take
  a_law_made : Addr
  d_law_made : FuncData
  m_law_made : mg "_law_made" = some (.ref a_law_made)
  b_law_made : Binds K d_law_made ["_law_k", "_law_one", "_law_other"] []
  F_law_made : Fun K "_law_made" "_law_made" s_law_made a_law_made d_law_made
  a_law_named : Addr
  d_law_named : FuncData
  m_law_named : mg "_law_named" = some (.ref a_law_named)
  b_law_named : Binds K d_law_named ["_law_k", "_law_one", "_law_other"] []
  F_law_named : Fun K "_law_named" "_law_named" s_law_named a_law_named d_law_named
  a_law_kinds : Addr
  d_law_kinds : FuncData
  m_law_kinds : mg "_law_kinds" = some (.ref a_law_kinds)
  b_law_kinds : Binds K d_law_kinds ["_law_e"] []
  F_law_kinds : Fun K "_law_kinds" "_law_kinds" s_law_kinds a_law_kinds d_law_kinds
  a_law_fields : Addr
  d_law_fields : FuncData
  m_law_fields : mg "_law_fields" = some (.ref a_law_fields)
  b_law_fields : Binds K d_law_fields ["_law_some", "_law_one", "_law_other"] []
  F_law_fields : Fun K "_law_fields" "_law_fields" s_law_fields a_law_fields d_law_fields
  a_law_taken : Addr
  d_law_taken : FuncData
  m_law_taken : mg "_law_taken" = some (.ref a_law_taken)
  b_law_taken : Binds K d_law_taken ["_law_one", "_law_other"] []
  F_law_taken : Fun K "_law_taken" "_law_taken" s_law_taken a_law_taken d_law_taken
  a_law : Addr
  d_law : FuncData
  m_law : mg "law" = some (.ref a_law)
  b_law : Binds K d_law ["_law_script"] []
  F_law : Fun K "law" "law" s_law a_law d_law
  z_IndexError : mg "IndexError" = none
  z_KeyError : mg "KeyError" = none
  z_ValueError : mg "ValueError" = none
  z_ZeroDivisionError : mg "ZeroDivisionError" = none
  z_enumerate : mg "enumerate" = none
  z_int : mg "int" = none
  z_isinstance : mg "isinstance" = none
  z_len : mg "len" = none
  z_range : mg "range" = none
  z_zip : mg "zip" = none
  sk_0_1 : PySem.W.subIn K (.ref a_NoText) (.ref a_NoWood) = some false
  sk_0_2 : PySem.W.subIn K (.ref a_NoText) (.ref a_NoTree) = some false
  sk_0_3 : PySem.W.subIn K (.ref a_NoText) (.ref a_NoWord) = some false
  sk_0_4 : PySem.W.subIn K (.ref a_NoText) (.ref a_TooLong) = some false
  sk_0_5 : PySem.W.subIn K (.ref a_NoText) (.ref a_NoReader) = some false
  sk_0_6 : PySem.W.subIn K (.ref a_NoText) (.ref a_NoFit) = some false
  sk_0_7 : PySem.W.subIn K (.ref a_NoText) (.ref a_NoPrinter) = some false
  sk_0_8 : PySem.W.subIn K (.ref a_NoText) (.ref a_NoTurner) = some false
  sk_0_9 : PySem.W.subIn K (.ref a_NoText) (.ref a_TooWide) = some false
  sk_0_10 : PySem.W.subIn K (.ref a_NoText) (.ref a_NoRow) = some false
  sk_0_11 : PySem.W.subIn K (.ref a_NoText) (.ref a_Nought) = some false
  sk_0_12 : PySem.W.subIn K (.ref a_NoText) (.ref a_NotKept) = some false
  sk_0_13 : PySem.W.subIn K (.ref a_NoText) (.ref a_NoBox) = some false
  sk_1_0 : PySem.W.subIn K (.ref a_NoWood) (.ref a_NoText) = some false
  sk_1_2 : PySem.W.subIn K (.ref a_NoWood) (.ref a_NoTree) = some false
  sk_1_3 : PySem.W.subIn K (.ref a_NoWood) (.ref a_NoWord) = some false
  sk_1_4 : PySem.W.subIn K (.ref a_NoWood) (.ref a_TooLong) = some false
  sk_1_5 : PySem.W.subIn K (.ref a_NoWood) (.ref a_NoReader) = some false
  sk_1_6 : PySem.W.subIn K (.ref a_NoWood) (.ref a_NoFit) = some false
  sk_1_7 : PySem.W.subIn K (.ref a_NoWood) (.ref a_NoPrinter) = some false
  sk_1_8 : PySem.W.subIn K (.ref a_NoWood) (.ref a_NoTurner) = some false
  sk_1_9 : PySem.W.subIn K (.ref a_NoWood) (.ref a_TooWide) = some false
  sk_1_10 : PySem.W.subIn K (.ref a_NoWood) (.ref a_NoRow) = some false
  sk_1_11 : PySem.W.subIn K (.ref a_NoWood) (.ref a_Nought) = some false
  sk_1_12 : PySem.W.subIn K (.ref a_NoWood) (.ref a_NotKept) = some false
  sk_1_13 : PySem.W.subIn K (.ref a_NoWood) (.ref a_NoBox) = some false
  sk_2_0 : PySem.W.subIn K (.ref a_NoTree) (.ref a_NoText) = some false
  sk_2_1 : PySem.W.subIn K (.ref a_NoTree) (.ref a_NoWood) = some false
  sk_2_3 : PySem.W.subIn K (.ref a_NoTree) (.ref a_NoWord) = some false
  sk_2_4 : PySem.W.subIn K (.ref a_NoTree) (.ref a_TooLong) = some false
  sk_2_5 : PySem.W.subIn K (.ref a_NoTree) (.ref a_NoReader) = some false
  sk_2_6 : PySem.W.subIn K (.ref a_NoTree) (.ref a_NoFit) = some false
  sk_2_7 : PySem.W.subIn K (.ref a_NoTree) (.ref a_NoPrinter) = some false
  sk_2_8 : PySem.W.subIn K (.ref a_NoTree) (.ref a_NoTurner) = some false
  sk_2_9 : PySem.W.subIn K (.ref a_NoTree) (.ref a_TooWide) = some false
  sk_2_10 : PySem.W.subIn K (.ref a_NoTree) (.ref a_NoRow) = some false
  sk_2_11 : PySem.W.subIn K (.ref a_NoTree) (.ref a_Nought) = some false
  sk_2_12 : PySem.W.subIn K (.ref a_NoTree) (.ref a_NotKept) = some false
  sk_2_13 : PySem.W.subIn K (.ref a_NoTree) (.ref a_NoBox) = some false
  sk_3_0 : PySem.W.subIn K (.ref a_NoWord) (.ref a_NoText) = some false
  sk_3_1 : PySem.W.subIn K (.ref a_NoWord) (.ref a_NoWood) = some false
  sk_3_2 : PySem.W.subIn K (.ref a_NoWord) (.ref a_NoTree) = some false
  sk_3_4 : PySem.W.subIn K (.ref a_NoWord) (.ref a_TooLong) = some false
  sk_3_5 : PySem.W.subIn K (.ref a_NoWord) (.ref a_NoReader) = some false
  sk_3_6 : PySem.W.subIn K (.ref a_NoWord) (.ref a_NoFit) = some false
  sk_3_7 : PySem.W.subIn K (.ref a_NoWord) (.ref a_NoPrinter) = some false
  sk_3_8 : PySem.W.subIn K (.ref a_NoWord) (.ref a_NoTurner) = some false
  sk_3_9 : PySem.W.subIn K (.ref a_NoWord) (.ref a_TooWide) = some false
  sk_3_10 : PySem.W.subIn K (.ref a_NoWord) (.ref a_NoRow) = some false
  sk_3_11 : PySem.W.subIn K (.ref a_NoWord) (.ref a_Nought) = some false
  sk_3_12 : PySem.W.subIn K (.ref a_NoWord) (.ref a_NotKept) = some false
  sk_3_13 : PySem.W.subIn K (.ref a_NoWord) (.ref a_NoBox) = some false
  sk_4_0 : PySem.W.subIn K (.ref a_TooLong) (.ref a_NoText) = some false
  sk_4_1 : PySem.W.subIn K (.ref a_TooLong) (.ref a_NoWood) = some false
  sk_4_2 : PySem.W.subIn K (.ref a_TooLong) (.ref a_NoTree) = some false
  sk_4_3 : PySem.W.subIn K (.ref a_TooLong) (.ref a_NoWord) = some false
  sk_4_5 : PySem.W.subIn K (.ref a_TooLong) (.ref a_NoReader) = some false
  sk_4_6 : PySem.W.subIn K (.ref a_TooLong) (.ref a_NoFit) = some false
  sk_4_7 : PySem.W.subIn K (.ref a_TooLong) (.ref a_NoPrinter) = some false
  sk_4_8 : PySem.W.subIn K (.ref a_TooLong) (.ref a_NoTurner) = some false
  sk_4_9 : PySem.W.subIn K (.ref a_TooLong) (.ref a_TooWide) = some false
  sk_4_10 : PySem.W.subIn K (.ref a_TooLong) (.ref a_NoRow) = some false
  sk_4_11 : PySem.W.subIn K (.ref a_TooLong) (.ref a_Nought) = some false
  sk_4_12 : PySem.W.subIn K (.ref a_TooLong) (.ref a_NotKept) = some false
  sk_4_13 : PySem.W.subIn K (.ref a_TooLong) (.ref a_NoBox) = some false
  sk_5_0 : PySem.W.subIn K (.ref a_NoReader) (.ref a_NoText) = some false
  sk_5_1 : PySem.W.subIn K (.ref a_NoReader) (.ref a_NoWood) = some false
  sk_5_2 : PySem.W.subIn K (.ref a_NoReader) (.ref a_NoTree) = some false
  sk_5_3 : PySem.W.subIn K (.ref a_NoReader) (.ref a_NoWord) = some false
  sk_5_4 : PySem.W.subIn K (.ref a_NoReader) (.ref a_TooLong) = some false
  sk_5_6 : PySem.W.subIn K (.ref a_NoReader) (.ref a_NoFit) = some false
  sk_5_7 : PySem.W.subIn K (.ref a_NoReader) (.ref a_NoPrinter) = some false
  sk_5_8 : PySem.W.subIn K (.ref a_NoReader) (.ref a_NoTurner) = some false
  sk_5_9 : PySem.W.subIn K (.ref a_NoReader) (.ref a_TooWide) = some false
  sk_5_10 : PySem.W.subIn K (.ref a_NoReader) (.ref a_NoRow) = some false
  sk_5_11 : PySem.W.subIn K (.ref a_NoReader) (.ref a_Nought) = some false
  sk_5_12 : PySem.W.subIn K (.ref a_NoReader) (.ref a_NotKept) = some false
  sk_5_13 : PySem.W.subIn K (.ref a_NoReader) (.ref a_NoBox) = some false
  sk_6_0 : PySem.W.subIn K (.ref a_NoFit) (.ref a_NoText) = some false
  sk_6_1 : PySem.W.subIn K (.ref a_NoFit) (.ref a_NoWood) = some false
  sk_6_2 : PySem.W.subIn K (.ref a_NoFit) (.ref a_NoTree) = some false
  sk_6_3 : PySem.W.subIn K (.ref a_NoFit) (.ref a_NoWord) = some false
  sk_6_4 : PySem.W.subIn K (.ref a_NoFit) (.ref a_TooLong) = some false
  sk_6_5 : PySem.W.subIn K (.ref a_NoFit) (.ref a_NoReader) = some false
  sk_6_7 : PySem.W.subIn K (.ref a_NoFit) (.ref a_NoPrinter) = some false
  sk_6_8 : PySem.W.subIn K (.ref a_NoFit) (.ref a_NoTurner) = some false
  sk_6_9 : PySem.W.subIn K (.ref a_NoFit) (.ref a_TooWide) = some false
  sk_6_10 : PySem.W.subIn K (.ref a_NoFit) (.ref a_NoRow) = some false
  sk_6_11 : PySem.W.subIn K (.ref a_NoFit) (.ref a_Nought) = some false
  sk_6_12 : PySem.W.subIn K (.ref a_NoFit) (.ref a_NotKept) = some false
  sk_6_13 : PySem.W.subIn K (.ref a_NoFit) (.ref a_NoBox) = some false
  sk_7_0 : PySem.W.subIn K (.ref a_NoPrinter) (.ref a_NoText) = some false
  sk_7_1 : PySem.W.subIn K (.ref a_NoPrinter) (.ref a_NoWood) = some false
  sk_7_2 : PySem.W.subIn K (.ref a_NoPrinter) (.ref a_NoTree) = some false
  sk_7_3 : PySem.W.subIn K (.ref a_NoPrinter) (.ref a_NoWord) = some false
  sk_7_4 : PySem.W.subIn K (.ref a_NoPrinter) (.ref a_TooLong) = some false
  sk_7_5 : PySem.W.subIn K (.ref a_NoPrinter) (.ref a_NoReader) = some false
  sk_7_6 : PySem.W.subIn K (.ref a_NoPrinter) (.ref a_NoFit) = some false
  sk_7_8 : PySem.W.subIn K (.ref a_NoPrinter) (.ref a_NoTurner) = some false
  sk_7_9 : PySem.W.subIn K (.ref a_NoPrinter) (.ref a_TooWide) = some false
  sk_7_10 : PySem.W.subIn K (.ref a_NoPrinter) (.ref a_NoRow) = some false
  sk_7_11 : PySem.W.subIn K (.ref a_NoPrinter) (.ref a_Nought) = some false
  sk_7_12 : PySem.W.subIn K (.ref a_NoPrinter) (.ref a_NotKept) = some false
  sk_7_13 : PySem.W.subIn K (.ref a_NoPrinter) (.ref a_NoBox) = some false
  sk_8_0 : PySem.W.subIn K (.ref a_NoTurner) (.ref a_NoText) = some false
  sk_8_1 : PySem.W.subIn K (.ref a_NoTurner) (.ref a_NoWood) = some false
  sk_8_2 : PySem.W.subIn K (.ref a_NoTurner) (.ref a_NoTree) = some false
  sk_8_3 : PySem.W.subIn K (.ref a_NoTurner) (.ref a_NoWord) = some false
  sk_8_4 : PySem.W.subIn K (.ref a_NoTurner) (.ref a_TooLong) = some false
  sk_8_5 : PySem.W.subIn K (.ref a_NoTurner) (.ref a_NoReader) = some false
  sk_8_6 : PySem.W.subIn K (.ref a_NoTurner) (.ref a_NoFit) = some false
  sk_8_7 : PySem.W.subIn K (.ref a_NoTurner) (.ref a_NoPrinter) = some false
  sk_8_9 : PySem.W.subIn K (.ref a_NoTurner) (.ref a_TooWide) = some false
  sk_8_10 : PySem.W.subIn K (.ref a_NoTurner) (.ref a_NoRow) = some false
  sk_8_11 : PySem.W.subIn K (.ref a_NoTurner) (.ref a_Nought) = some false
  sk_8_12 : PySem.W.subIn K (.ref a_NoTurner) (.ref a_NotKept) = some false
  sk_8_13 : PySem.W.subIn K (.ref a_NoTurner) (.ref a_NoBox) = some false
  sk_9_0 : PySem.W.subIn K (.ref a_TooWide) (.ref a_NoText) = some false
  sk_9_1 : PySem.W.subIn K (.ref a_TooWide) (.ref a_NoWood) = some false
  sk_9_2 : PySem.W.subIn K (.ref a_TooWide) (.ref a_NoTree) = some false
  sk_9_3 : PySem.W.subIn K (.ref a_TooWide) (.ref a_NoWord) = some false
  sk_9_4 : PySem.W.subIn K (.ref a_TooWide) (.ref a_TooLong) = some false
  sk_9_5 : PySem.W.subIn K (.ref a_TooWide) (.ref a_NoReader) = some false
  sk_9_6 : PySem.W.subIn K (.ref a_TooWide) (.ref a_NoFit) = some false
  sk_9_7 : PySem.W.subIn K (.ref a_TooWide) (.ref a_NoPrinter) = some false
  sk_9_8 : PySem.W.subIn K (.ref a_TooWide) (.ref a_NoTurner) = some false
  sk_9_10 : PySem.W.subIn K (.ref a_TooWide) (.ref a_NoRow) = some false
  sk_9_11 : PySem.W.subIn K (.ref a_TooWide) (.ref a_Nought) = some false
  sk_9_12 : PySem.W.subIn K (.ref a_TooWide) (.ref a_NotKept) = some false
  sk_9_13 : PySem.W.subIn K (.ref a_TooWide) (.ref a_NoBox) = some false
  sk_10_0 : PySem.W.subIn K (.ref a_NoRow) (.ref a_NoText) = some false
  sk_10_1 : PySem.W.subIn K (.ref a_NoRow) (.ref a_NoWood) = some false
  sk_10_2 : PySem.W.subIn K (.ref a_NoRow) (.ref a_NoTree) = some false
  sk_10_3 : PySem.W.subIn K (.ref a_NoRow) (.ref a_NoWord) = some false
  sk_10_4 : PySem.W.subIn K (.ref a_NoRow) (.ref a_TooLong) = some false
  sk_10_5 : PySem.W.subIn K (.ref a_NoRow) (.ref a_NoReader) = some false
  sk_10_6 : PySem.W.subIn K (.ref a_NoRow) (.ref a_NoFit) = some false
  sk_10_7 : PySem.W.subIn K (.ref a_NoRow) (.ref a_NoPrinter) = some false
  sk_10_8 : PySem.W.subIn K (.ref a_NoRow) (.ref a_NoTurner) = some false
  sk_10_9 : PySem.W.subIn K (.ref a_NoRow) (.ref a_TooWide) = some false
  sk_10_11 : PySem.W.subIn K (.ref a_NoRow) (.ref a_Nought) = some false
  sk_10_12 : PySem.W.subIn K (.ref a_NoRow) (.ref a_NotKept) = some false
  sk_10_13 : PySem.W.subIn K (.ref a_NoRow) (.ref a_NoBox) = some false
  sk_11_0 : PySem.W.subIn K (.ref a_Nought) (.ref a_NoText) = some false
  sk_11_1 : PySem.W.subIn K (.ref a_Nought) (.ref a_NoWood) = some false
  sk_11_2 : PySem.W.subIn K (.ref a_Nought) (.ref a_NoTree) = some false
  sk_11_3 : PySem.W.subIn K (.ref a_Nought) (.ref a_NoWord) = some false
  sk_11_4 : PySem.W.subIn K (.ref a_Nought) (.ref a_TooLong) = some false
  sk_11_5 : PySem.W.subIn K (.ref a_Nought) (.ref a_NoReader) = some false
  sk_11_6 : PySem.W.subIn K (.ref a_Nought) (.ref a_NoFit) = some false
  sk_11_7 : PySem.W.subIn K (.ref a_Nought) (.ref a_NoPrinter) = some false
  sk_11_8 : PySem.W.subIn K (.ref a_Nought) (.ref a_NoTurner) = some false
  sk_11_9 : PySem.W.subIn K (.ref a_Nought) (.ref a_TooWide) = some false
  sk_11_10 : PySem.W.subIn K (.ref a_Nought) (.ref a_NoRow) = some false
  sk_11_12 : PySem.W.subIn K (.ref a_Nought) (.ref a_NotKept) = some false
  sk_11_13 : PySem.W.subIn K (.ref a_Nought) (.ref a_NoBox) = some false
  sk_12_0 : PySem.W.subIn K (.ref a_NotKept) (.ref a_NoText) = some false
  sk_12_1 : PySem.W.subIn K (.ref a_NotKept) (.ref a_NoWood) = some false
  sk_12_2 : PySem.W.subIn K (.ref a_NotKept) (.ref a_NoTree) = some false
  sk_12_3 : PySem.W.subIn K (.ref a_NotKept) (.ref a_NoWord) = some false
  sk_12_4 : PySem.W.subIn K (.ref a_NotKept) (.ref a_TooLong) = some false
  sk_12_5 : PySem.W.subIn K (.ref a_NotKept) (.ref a_NoReader) = some false
  sk_12_6 : PySem.W.subIn K (.ref a_NotKept) (.ref a_NoFit) = some false
  sk_12_7 : PySem.W.subIn K (.ref a_NotKept) (.ref a_NoPrinter) = some false
  sk_12_8 : PySem.W.subIn K (.ref a_NotKept) (.ref a_NoTurner) = some false
  sk_12_9 : PySem.W.subIn K (.ref a_NotKept) (.ref a_TooWide) = some false
  sk_12_10 : PySem.W.subIn K (.ref a_NotKept) (.ref a_NoRow) = some false
  sk_12_11 : PySem.W.subIn K (.ref a_NotKept) (.ref a_Nought) = some false
  sk_12_13 : PySem.W.subIn K (.ref a_NotKept) (.ref a_NoBox) = some false
  sk_13_0 : PySem.W.subIn K (.ref a_NoBox) (.ref a_NoText) = some false
  sk_13_1 : PySem.W.subIn K (.ref a_NoBox) (.ref a_NoWood) = some false
  sk_13_2 : PySem.W.subIn K (.ref a_NoBox) (.ref a_NoTree) = some false
  sk_13_3 : PySem.W.subIn K (.ref a_NoBox) (.ref a_NoWord) = some false
  sk_13_4 : PySem.W.subIn K (.ref a_NoBox) (.ref a_TooLong) = some false
  sk_13_5 : PySem.W.subIn K (.ref a_NoBox) (.ref a_NoReader) = some false
  sk_13_6 : PySem.W.subIn K (.ref a_NoBox) (.ref a_NoFit) = some false
  sk_13_7 : PySem.W.subIn K (.ref a_NoBox) (.ref a_NoPrinter) = some false
  sk_13_8 : PySem.W.subIn K (.ref a_NoBox) (.ref a_NoTurner) = some false
  sk_13_9 : PySem.W.subIn K (.ref a_NoBox) (.ref a_TooWide) = some false
  sk_13_10 : PySem.W.subIn K (.ref a_NoBox) (.ref a_NoRow) = some false
  sk_13_11 : PySem.W.subIn K (.ref a_NoBox) (.ref a_Nought) = some false
  sk_13_12 : PySem.W.subIn K (.ref a_NoBox) (.ref a_NotKept) = some false
  sTB : PySem.W.subIn K (.ref a_NoText) (.ref a_BoughError) = some true
  sTK : PySem.W.subIn K (.ref a_NotKept) (.type "KeyError") = some true
  sKB : PySem.W.subIn K (.type "KeyError") (.type "BaseException") = some true
  sB_0 : PySem.W.subIn K (.ref a_NoText) (.ref a_BoughError) = some true
  sV_0 : PySem.W.subIn K (.ref a_NoText) (.type "ValueError") = some true
  sZ_0 : PySem.W.subIn K (.ref a_NoText) (.type "ZeroDivisionError") = some false
  sK_0 : PySem.W.subIn K (.ref a_NoText) (.type "KeyError") = some false
  sI_0 : PySem.W.subIn K (.ref a_NoText) (.type "IndexError") = some false
  sB_1 : PySem.W.subIn K (.ref a_NoWood) (.ref a_BoughError) = some true
  sV_1 : PySem.W.subIn K (.ref a_NoWood) (.type "ValueError") = some true
  sZ_1 : PySem.W.subIn K (.ref a_NoWood) (.type "ZeroDivisionError") = some false
  sK_1 : PySem.W.subIn K (.ref a_NoWood) (.type "KeyError") = some false
  sI_1 : PySem.W.subIn K (.ref a_NoWood) (.type "IndexError") = some false
  sB_2 : PySem.W.subIn K (.ref a_NoTree) (.ref a_BoughError) = some true
  sV_2 : PySem.W.subIn K (.ref a_NoTree) (.type "ValueError") = some true
  sZ_2 : PySem.W.subIn K (.ref a_NoTree) (.type "ZeroDivisionError") = some false
  sK_2 : PySem.W.subIn K (.ref a_NoTree) (.type "KeyError") = some false
  sI_2 : PySem.W.subIn K (.ref a_NoTree) (.type "IndexError") = some false
  sB_3 : PySem.W.subIn K (.ref a_NoWord) (.ref a_BoughError) = some true
  sV_3 : PySem.W.subIn K (.ref a_NoWord) (.type "ValueError") = some true
  sZ_3 : PySem.W.subIn K (.ref a_NoWord) (.type "ZeroDivisionError") = some false
  sK_3 : PySem.W.subIn K (.ref a_NoWord) (.type "KeyError") = some false
  sI_3 : PySem.W.subIn K (.ref a_NoWord) (.type "IndexError") = some false
  sB_4 : PySem.W.subIn K (.ref a_TooLong) (.ref a_BoughError) = some true
  sV_4 : PySem.W.subIn K (.ref a_TooLong) (.type "ValueError") = some true
  sZ_4 : PySem.W.subIn K (.ref a_TooLong) (.type "ZeroDivisionError") = some false
  sK_4 : PySem.W.subIn K (.ref a_TooLong) (.type "KeyError") = some false
  sI_4 : PySem.W.subIn K (.ref a_TooLong) (.type "IndexError") = some false
  sB_5 : PySem.W.subIn K (.ref a_NoReader) (.ref a_BoughError) = some true
  sV_5 : PySem.W.subIn K (.ref a_NoReader) (.type "ValueError") = some true
  sZ_5 : PySem.W.subIn K (.ref a_NoReader) (.type "ZeroDivisionError") = some false
  sK_5 : PySem.W.subIn K (.ref a_NoReader) (.type "KeyError") = some false
  sI_5 : PySem.W.subIn K (.ref a_NoReader) (.type "IndexError") = some false
  sB_6 : PySem.W.subIn K (.ref a_NoFit) (.ref a_BoughError) = some true
  sV_6 : PySem.W.subIn K (.ref a_NoFit) (.type "ValueError") = some true
  sZ_6 : PySem.W.subIn K (.ref a_NoFit) (.type "ZeroDivisionError") = some false
  sK_6 : PySem.W.subIn K (.ref a_NoFit) (.type "KeyError") = some false
  sI_6 : PySem.W.subIn K (.ref a_NoFit) (.type "IndexError") = some false
  sB_7 : PySem.W.subIn K (.ref a_NoPrinter) (.ref a_BoughError) = some true
  sV_7 : PySem.W.subIn K (.ref a_NoPrinter) (.type "ValueError") = some true
  sZ_7 : PySem.W.subIn K (.ref a_NoPrinter) (.type "ZeroDivisionError") = some false
  sK_7 : PySem.W.subIn K (.ref a_NoPrinter) (.type "KeyError") = some false
  sI_7 : PySem.W.subIn K (.ref a_NoPrinter) (.type "IndexError") = some false
  sB_8 : PySem.W.subIn K (.ref a_NoTurner) (.ref a_BoughError) = some true
  sV_8 : PySem.W.subIn K (.ref a_NoTurner) (.type "ValueError") = some true
  sZ_8 : PySem.W.subIn K (.ref a_NoTurner) (.type "ZeroDivisionError") = some false
  sK_8 : PySem.W.subIn K (.ref a_NoTurner) (.type "KeyError") = some false
  sI_8 : PySem.W.subIn K (.ref a_NoTurner) (.type "IndexError") = some false
  sB_9 : PySem.W.subIn K (.ref a_TooWide) (.ref a_BoughError) = some true
  sV_9 : PySem.W.subIn K (.ref a_TooWide) (.type "ValueError") = some true
  sZ_9 : PySem.W.subIn K (.ref a_TooWide) (.type "ZeroDivisionError") = some false
  sK_9 : PySem.W.subIn K (.ref a_TooWide) (.type "KeyError") = some false
  sI_9 : PySem.W.subIn K (.ref a_TooWide) (.type "IndexError") = some false
  sB_10 : PySem.W.subIn K (.ref a_NoRow) (.ref a_BoughError) = some true
  sV_10 : PySem.W.subIn K (.ref a_NoRow) (.type "ValueError") = some true
  sZ_10 : PySem.W.subIn K (.ref a_NoRow) (.type "ZeroDivisionError") = some false
  sK_10 : PySem.W.subIn K (.ref a_NoRow) (.type "KeyError") = some false
  sI_10 : PySem.W.subIn K (.ref a_NoRow) (.type "IndexError") = some false
  sB_11 : PySem.W.subIn K (.ref a_Nought) (.ref a_BoughError) = some false
  sV_11 : PySem.W.subIn K (.ref a_Nought) (.type "ValueError") = some false
  sZ_11 : PySem.W.subIn K (.ref a_Nought) (.type "ZeroDivisionError") = some true
  sK_11 : PySem.W.subIn K (.ref a_Nought) (.type "KeyError") = some false
  sI_11 : PySem.W.subIn K (.ref a_Nought) (.type "IndexError") = some false
  sB_12 : PySem.W.subIn K (.ref a_NotKept) (.ref a_BoughError) = some false
  sV_12 : PySem.W.subIn K (.ref a_NotKept) (.type "ValueError") = some false
  sZ_12 : PySem.W.subIn K (.ref a_NotKept) (.type "ZeroDivisionError") = some false
  sK_12 : PySem.W.subIn K (.ref a_NotKept) (.type "KeyError") = some true
  sI_12 : PySem.W.subIn K (.ref a_NotKept) (.type "IndexError") = some false
  sB_13 : PySem.W.subIn K (.ref a_NoBox) (.ref a_BoughError) = some false
  sV_13 : PySem.W.subIn K (.ref a_NoBox) (.type "ValueError") = some false
  sZ_13 : PySem.W.subIn K (.ref a_NoBox) (.type "ZeroDivisionError") = some false
  sK_13 : PySem.W.subIn K (.ref a_NoBox) (.type "KeyError") = some false
  sI_13 : PySem.W.subIn K (.ref a_NoBox) (.type "IndexError") = some true
section
variable {P : Program} {w : World} {K : PySem.W.Frag} {mg : Str → Option Value} {base : Heap}
theorem ok_init_NoText (T : Txt K mg) : FnOk P w K mg base (L2.CX P w) 1 T.aI_NoText T.dI_NoText ["self", "row"] (spS1 K "ValueError" "ValueError" "ValueError.__new__" "row") := by
  refine T.FI_NoText.okX scI_NoText (fun vs H Q E h => ?_) (fun cdv A outer s H vs Q E hr h => ?_)
  · obtain ⟨_, _, _, rfl, _⟩ := h
    rfl
  obtain ⟨a, C, y, rfl, ho, n1, ha, q⟩ := h
  refine ⟨_, pss_cons (ps_expr (pe_xinitSO (B := "ValueError") (BI := "ValueError") (newId := "ValueError.__new__") (IniF.of PySem.F.excBase_ValueError) T.h_BoughError (by decide +kernel) rfl T.m_BoughError (pa_cons (uv 0) (pa_cons pe_str pa_nil)))) (pss_one (ps_osS (B := "ValueError") (BI := "ValueError") (newId := "ValueError.__new__") (uv 0) (uv 1))), ?_⟩
  refine g_seq (g_drop ?_)
  show tCons (uV 0) _ _ _ _
  walk_at "go"
  refine ⟨C, by decide, ho, ha, ?_⟩
  walk_at "go"
  refine ⟨a, C, rfl, ho, n1, .inl ⟨ha, fun dx hd ne => ?_⟩⟩
  exact q dx hd ne
theorem kb_NoText_pos (T : Txt K mg) : KBn K T.dI_NoText ["self", "row"] 2 [] (fun us _ => us) (fun vs _ => vs) :=
  kb_fun (ps := ["self", "row"]) T.FI_NoText 2 [] (fun us _ => us) (fun r1 _ => r1) fun _ _ _ _ _ _ us ws h1 h2 => match us, h1, ws, h2 with | [_, _], _, [], _ => rfl
theorem kb_NoText_row (T : Txt K mg) : KBn K T.dI_NoText ["self", "row"] 1 ["row"] (fun us ws => us ++ ws) (fun vs zs => vs ++ zs) :=
  kb_fun (ps := ["self", "row"]) T.FI_NoText 1 ["row"] (fun us ws => us ++ ws) (fun r1 r2 => r1.append r2) fun _ _ _ _ _ _ us ws h1 h2 => match us, h1, ws, h2 with | [_], _, [_], _ => rfl
theorem ok_init_NoWood (T : Txt K mg) : FnOk P w K mg base (L2.CX P w) 1 T.aI_NoWood T.dI_NoWood ["self", "word", "name"] (spS2 K "ValueError" "ValueError" "ValueError.__new__" "word" "name") := by
  refine T.FI_NoWood.okX scI_NoWood (fun vs H Q E h => ?_) (fun cdv A outer s H vs Q E hr h => ?_)
  · obtain ⟨_, _, _, _, rfl, _⟩ := h
    rfl
  obtain ⟨a, C, y, z, rfl, ho, n1, n2, ha, q⟩ := h
  refine ⟨_, pss_cons (ps_expr (pe_xinitSO (B := "ValueError") (BI := "ValueError") (newId := "ValueError.__new__") (IniF.of PySem.F.excBase_ValueError) T.h_BoughError (by decide +kernel) rfl T.m_BoughError (pa_cons (uv 0) (pa_cons pe_str pa_nil)))) (pss_cons (ps_osS (B := "ValueError") (BI := "ValueError") (newId := "ValueError.__new__") (uv 0) (uv 1)) (pss_one (ps_osS (B := "ValueError") (BI := "ValueError") (newId := "ValueError.__new__") (uv 0) (uv 2)))), ?_⟩
  refine g_seq (g_drop ?_)
  show tCons (uV 0) _ _ _ _
  walk_at "go"
  refine ⟨C, by decide, ho, ha, ?_⟩
  walk_at "go"
  refine ⟨a, C, rfl, ho, n1, .inl ⟨ha, fun dx hd ne => ?_⟩⟩
  walk_at "go"
  refine ⟨a, C, rfl, ho, n2, .inr ⟨dx, _, upd_same, ?_, by simp, q dx hd ne⟩⟩
  rw [upd_ne ne, upd_same]
theorem kb_NoWood_pos (T : Txt K mg) : KBn K T.dI_NoWood ["self", "word", "name"] 3 [] (fun us _ => us) (fun vs _ => vs) :=
  kb_fun (ps := ["self", "word", "name"]) T.FI_NoWood 3 [] (fun us _ => us) (fun r1 _ => r1) fun _ _ _ _ _ _ us ws h1 h2 => match us, h1, ws, h2 with | [_, _, _], _, [], _ => rfl
theorem kb_NoWood_name_word (T : Txt K mg) : KBn K T.dI_NoWood ["self", "word", "name"] 1 ["name", "word"] (fun us ws => us ++ ws.reverse) (fun vs zs => vs ++ zs.reverse) :=
  kb_fun (ps := ["self", "word", "name"]) T.FI_NoWood 1 ["name", "word"] (fun us ws => us ++ ws.reverse) (fun r1 r2 => r1.append r2.reverse) fun _ _ _ _ _ _ us ws h1 h2 => match us, h1, ws, h2 with | [_], _, [_, _], _ => rfl
theorem ok_init_NoTree (T : Txt K mg) : FnOk P w K mg base (L2.CX P w) 1 T.aI_NoTree T.dI_NoTree ["self", "at"] (spS1 K "ValueError" "ValueError" "ValueError.__new__" "at") := by
  refine T.FI_NoTree.okX scI_NoTree (fun vs H Q E h => ?_) (fun cdv A outer s H vs Q E hr h => ?_)
  · obtain ⟨_, _, _, rfl, _⟩ := h
    rfl
  obtain ⟨a, C, y, rfl, ho, n1, ha, q⟩ := h
  refine ⟨_, pss_cons (ps_expr (pe_xinitSO (B := "ValueError") (BI := "ValueError") (newId := "ValueError.__new__") (IniF.of PySem.F.excBase_ValueError) T.h_BoughError (by decide +kernel) rfl T.m_BoughError (pa_cons (uv 0) (pa_cons pe_str pa_nil)))) (pss_one (ps_osS (B := "ValueError") (BI := "ValueError") (newId := "ValueError.__new__") (uv 0) (uv 1))), ?_⟩
  refine g_seq (g_drop ?_)
  show tCons (uV 0) _ _ _ _
  walk_at "go"
  refine ⟨C, by decide, ho, ha, ?_⟩
  walk_at "go"
  refine ⟨a, C, rfl, ho, n1, .inl ⟨ha, fun dx hd ne => ?_⟩⟩
  exact q dx hd ne
theorem kb_NoTree_pos (T : Txt K mg) : KBn K T.dI_NoTree ["self", "at"] 2 [] (fun us _ => us) (fun vs _ => vs) :=
  kb_fun (ps := ["self", "at"]) T.FI_NoTree 2 [] (fun us _ => us) (fun r1 _ => r1) fun _ _ _ _ _ _ us ws h1 h2 => match us, h1, ws, h2 with | [_, _], _, [], _ => rfl
theorem kb_NoTree_at (T : Txt K mg) : KBn K T.dI_NoTree ["self", "at"] 1 ["at"] (fun us ws => us ++ ws) (fun vs zs => vs ++ zs) :=
  kb_fun (ps := ["self", "at"]) T.FI_NoTree 1 ["at"] (fun us ws => us ++ ws) (fun r1 r2 => r1.append r2) fun _ _ _ _ _ _ us ws h1 h2 => match us, h1, ws, h2 with | [_], _, [_], _ => rfl
theorem ok_init_NoWord (T : Txt K mg) : FnOk P w K mg base (L2.CX P w) 1 T.aI_NoWord T.dI_NoWord ["self", "at"] (spS1 K "ValueError" "ValueError" "ValueError.__new__" "at") := by
  refine T.FI_NoWord.okX scI_NoWord (fun vs H Q E h => ?_) (fun cdv A outer s H vs Q E hr h => ?_)
  · obtain ⟨_, _, _, rfl, _⟩ := h
    rfl
  obtain ⟨a, C, y, rfl, ho, n1, ha, q⟩ := h
  refine ⟨_, pss_cons (ps_expr (pe_xinitSO (B := "ValueError") (BI := "ValueError") (newId := "ValueError.__new__") (IniF.of PySem.F.excBase_ValueError) T.h_BoughError (by decide +kernel) rfl T.m_BoughError (pa_cons (uv 0) (pa_cons pe_str pa_nil)))) (pss_one (ps_osS (B := "ValueError") (BI := "ValueError") (newId := "ValueError.__new__") (uv 0) (uv 1))), ?_⟩
  refine g_seq (g_drop ?_)
  show tCons (uV 0) _ _ _ _
  walk_at "go"
  refine ⟨C, by decide, ho, ha, ?_⟩
  walk_at "go"
  refine ⟨a, C, rfl, ho, n1, .inl ⟨ha, fun dx hd ne => ?_⟩⟩
  exact q dx hd ne
theorem kb_NoWord_pos (T : Txt K mg) : KBn K T.dI_NoWord ["self", "at"] 2 [] (fun us _ => us) (fun vs _ => vs) :=
  kb_fun (ps := ["self", "at"]) T.FI_NoWord 2 [] (fun us _ => us) (fun r1 _ => r1) fun _ _ _ _ _ _ us ws h1 h2 => match us, h1, ws, h2 with | [_, _], _, [], _ => rfl
theorem kb_NoWord_at (T : Txt K mg) : KBn K T.dI_NoWord ["self", "at"] 1 ["at"] (fun us ws => us ++ ws) (fun vs zs => vs ++ zs) :=
  kb_fun (ps := ["self", "at"]) T.FI_NoWord 1 ["at"] (fun us ws => us ++ ws) (fun r1 r2 => r1.append r2) fun _ _ _ _ _ _ us ws h1 h2 => match us, h1, ws, h2 with | [_], _, [_], _ => rfl
theorem ok_init_TooLong (T : Txt K mg) : FnOk P w K mg base (L2.CX P w) 1 T.aI_TooLong T.dI_TooLong ["self", "most"] (spS1 K "ValueError" "ValueError" "ValueError.__new__" "most") := by
  refine T.FI_TooLong.okX scI_TooLong (fun vs H Q E h => ?_) (fun cdv A outer s H vs Q E hr h => ?_)
  · obtain ⟨_, _, _, rfl, _⟩ := h
    rfl
  obtain ⟨a, C, y, rfl, ho, n1, ha, q⟩ := h
  refine ⟨_, pss_cons (ps_expr (pe_xinitSO (B := "ValueError") (BI := "ValueError") (newId := "ValueError.__new__") (IniF.of PySem.F.excBase_ValueError) T.h_BoughError (by decide +kernel) rfl T.m_BoughError (pa_cons (uv 0) (pa_cons pe_str pa_nil)))) (pss_one (ps_osS (B := "ValueError") (BI := "ValueError") (newId := "ValueError.__new__") (uv 0) (uv 1))), ?_⟩
  refine g_seq (g_drop ?_)
  show tCons (uV 0) _ _ _ _
  walk_at "go"
  refine ⟨C, by decide, ho, ha, ?_⟩
  walk_at "go"
  refine ⟨a, C, rfl, ho, n1, .inl ⟨ha, fun dx hd ne => ?_⟩⟩
  exact q dx hd ne
theorem kb_TooLong_pos (T : Txt K mg) : KBn K T.dI_TooLong ["self", "most"] 2 [] (fun us _ => us) (fun vs _ => vs) :=
  kb_fun (ps := ["self", "most"]) T.FI_TooLong 2 [] (fun us _ => us) (fun r1 _ => r1) fun _ _ _ _ _ _ us ws h1 h2 => match us, h1, ws, h2 with | [_, _], _, [], _ => rfl
theorem kb_TooLong_most (T : Txt K mg) : KBn K T.dI_TooLong ["self", "most"] 1 ["most"] (fun us ws => us ++ ws) (fun vs zs => vs ++ zs) :=
  kb_fun (ps := ["self", "most"]) T.FI_TooLong 1 ["most"] (fun us ws => us ++ ws) (fun r1 r2 => r1.append r2) fun _ _ _ _ _ _ us ws h1 h2 => match us, h1, ws, h2 with | [_], _, [_], _ => rfl
theorem ok_init_NoReader (T : Txt K mg) : FnOk P w K mg base (L2.CX P w) 1 T.aI_NoReader T.dI_NoReader ["self", "word", "maker"] (spS2 K "ValueError" "ValueError" "ValueError.__new__" "word" "maker") := by
  refine T.FI_NoReader.okX scI_NoReader (fun vs H Q E h => ?_) (fun cdv A outer s H vs Q E hr h => ?_)
  · obtain ⟨_, _, _, _, rfl, _⟩ := h
    rfl
  obtain ⟨a, C, y, z, rfl, ho, n1, n2, ha, q⟩ := h
  refine ⟨_, pss_cons (ps_expr (pe_xinitSO (B := "ValueError") (BI := "ValueError") (newId := "ValueError.__new__") (IniF.of PySem.F.excBase_ValueError) T.h_BoughError (by decide +kernel) rfl T.m_BoughError (pa_cons (uv 0) (pa_cons pe_str pa_nil)))) (pss_cons (ps_osS (B := "ValueError") (BI := "ValueError") (newId := "ValueError.__new__") (uv 0) (uv 1)) (pss_one (ps_osS (B := "ValueError") (BI := "ValueError") (newId := "ValueError.__new__") (uv 0) (uv 2)))), ?_⟩
  refine g_seq (g_drop ?_)
  show tCons (uV 0) _ _ _ _
  walk_at "go"
  refine ⟨C, by decide, ho, ha, ?_⟩
  walk_at "go"
  refine ⟨a, C, rfl, ho, n1, .inl ⟨ha, fun dx hd ne => ?_⟩⟩
  walk_at "go"
  refine ⟨a, C, rfl, ho, n2, .inr ⟨dx, _, upd_same, ?_, by simp, q dx hd ne⟩⟩
  rw [upd_ne ne, upd_same]
theorem kb_NoReader_pos (T : Txt K mg) : KBn K T.dI_NoReader ["self", "word", "maker"] 3 [] (fun us _ => us) (fun vs _ => vs) :=
  kb_fun (ps := ["self", "word", "maker"]) T.FI_NoReader 3 [] (fun us _ => us) (fun r1 _ => r1) fun _ _ _ _ _ _ us ws h1 h2 => match us, h1, ws, h2 with | [_, _, _], _, [], _ => rfl
theorem kb_NoReader_maker_word (T : Txt K mg) : KBn K T.dI_NoReader ["self", "word", "maker"] 1 ["maker", "word"] (fun us ws => us ++ ws.reverse) (fun vs zs => vs ++ zs.reverse) :=
  kb_fun (ps := ["self", "word", "maker"]) T.FI_NoReader 1 ["maker", "word"] (fun us ws => us ++ ws.reverse) (fun r1 r2 => r1.append r2.reverse) fun _ _ _ _ _ _ us ws h1 h2 => match us, h1, ws, h2 with | [_], _, [_, _], _ => rfl
theorem ok_init_NoFit (T : Txt K mg) : FnOk P w K mg base (L2.CX P w) 1 T.aI_NoFit T.dI_NoFit ["self", "at"] (spS1 K "ValueError" "ValueError" "ValueError.__new__" "at") := by
  refine T.FI_NoFit.okX scI_NoFit (fun vs H Q E h => ?_) (fun cdv A outer s H vs Q E hr h => ?_)
  · obtain ⟨_, _, _, rfl, _⟩ := h
    rfl
  obtain ⟨a, C, y, rfl, ho, n1, ha, q⟩ := h
  refine ⟨_, pss_cons (ps_expr (pe_xinitSO (B := "ValueError") (BI := "ValueError") (newId := "ValueError.__new__") (IniF.of PySem.F.excBase_ValueError) T.h_BoughError (by decide +kernel) rfl T.m_BoughError (pa_cons (uv 0) (pa_cons pe_str pa_nil)))) (pss_one (ps_osS (B := "ValueError") (BI := "ValueError") (newId := "ValueError.__new__") (uv 0) (uv 1))), ?_⟩
  refine g_seq (g_drop ?_)
  show tCons (uV 0) _ _ _ _
  walk_at "go"
  refine ⟨C, by decide, ho, ha, ?_⟩
  walk_at "go"
  refine ⟨a, C, rfl, ho, n1, .inl ⟨ha, fun dx hd ne => ?_⟩⟩
  exact q dx hd ne
theorem kb_NoFit_pos (T : Txt K mg) : KBn K T.dI_NoFit ["self", "at"] 2 [] (fun us _ => us) (fun vs _ => vs) :=
  kb_fun (ps := ["self", "at"]) T.FI_NoFit 2 [] (fun us _ => us) (fun r1 _ => r1) fun _ _ _ _ _ _ us ws h1 h2 => match us, h1, ws, h2 with | [_, _], _, [], _ => rfl
theorem kb_NoFit_at (T : Txt K mg) : KBn K T.dI_NoFit ["self", "at"] 1 ["at"] (fun us ws => us ++ ws) (fun vs zs => vs ++ zs) :=
  kb_fun (ps := ["self", "at"]) T.FI_NoFit 1 ["at"] (fun us ws => us ++ ws) (fun r1 r2 => r1.append r2) fun _ _ _ _ _ _ us ws h1 h2 => match us, h1, ws, h2 with | [_], _, [_], _ => rfl
theorem ok_init_NoPrinter (T : Txt K mg) : FnOk P w K mg base (L2.CX P w) 1 T.aI_NoPrinter T.dI_NoPrinter ["self", "word", "maker"] (spS2 K "ValueError" "ValueError" "ValueError.__new__" "word" "maker") := by
  refine T.FI_NoPrinter.okX scI_NoPrinter (fun vs H Q E h => ?_) (fun cdv A outer s H vs Q E hr h => ?_)
  · obtain ⟨_, _, _, _, rfl, _⟩ := h
    rfl
  obtain ⟨a, C, y, z, rfl, ho, n1, n2, ha, q⟩ := h
  refine ⟨_, pss_cons (ps_expr (pe_xinitSO (B := "ValueError") (BI := "ValueError") (newId := "ValueError.__new__") (IniF.of PySem.F.excBase_ValueError) T.h_BoughError (by decide +kernel) rfl T.m_BoughError (pa_cons (uv 0) (pa_cons pe_str pa_nil)))) (pss_cons (ps_osS (B := "ValueError") (BI := "ValueError") (newId := "ValueError.__new__") (uv 0) (uv 1)) (pss_one (ps_osS (B := "ValueError") (BI := "ValueError") (newId := "ValueError.__new__") (uv 0) (uv 2)))), ?_⟩
  refine g_seq (g_drop ?_)
  show tCons (uV 0) _ _ _ _
  walk_at "go"
  refine ⟨C, by decide, ho, ha, ?_⟩
  walk_at "go"
  refine ⟨a, C, rfl, ho, n1, .inl ⟨ha, fun dx hd ne => ?_⟩⟩
  walk_at "go"
  refine ⟨a, C, rfl, ho, n2, .inr ⟨dx, _, upd_same, ?_, by simp, q dx hd ne⟩⟩
  rw [upd_ne ne, upd_same]
theorem kb_NoPrinter_pos (T : Txt K mg) : KBn K T.dI_NoPrinter ["self", "word", "maker"] 3 [] (fun us _ => us) (fun vs _ => vs) :=
  kb_fun (ps := ["self", "word", "maker"]) T.FI_NoPrinter 3 [] (fun us _ => us) (fun r1 _ => r1) fun _ _ _ _ _ _ us ws h1 h2 => match us, h1, ws, h2 with | [_, _, _], _, [], _ => rfl
theorem kb_NoPrinter_maker_word (T : Txt K mg) : KBn K T.dI_NoPrinter ["self", "word", "maker"] 1 ["maker", "word"] (fun us ws => us ++ ws.reverse) (fun vs zs => vs ++ zs.reverse) :=
  kb_fun (ps := ["self", "word", "maker"]) T.FI_NoPrinter 1 ["maker", "word"] (fun us ws => us ++ ws.reverse) (fun r1 r2 => r1.append r2.reverse) fun _ _ _ _ _ _ us ws h1 h2 => match us, h1, ws, h2 with | [_], _, [_, _], _ => rfl
theorem ok_init_NoTurner (T : Txt K mg) : FnOk P w K mg base (L2.CX P w) 1 T.aI_NoTurner T.dI_NoTurner ["self", "word", "maker"] (spS2 K "ValueError" "ValueError" "ValueError.__new__" "word" "maker") := by
  refine T.FI_NoTurner.okX scI_NoTurner (fun vs H Q E h => ?_) (fun cdv A outer s H vs Q E hr h => ?_)
  · obtain ⟨_, _, _, _, rfl, _⟩ := h
    rfl
  obtain ⟨a, C, y, z, rfl, ho, n1, n2, ha, q⟩ := h
  refine ⟨_, pss_cons (ps_expr (pe_xinitSO (B := "ValueError") (BI := "ValueError") (newId := "ValueError.__new__") (IniF.of PySem.F.excBase_ValueError) T.h_BoughError (by decide +kernel) rfl T.m_BoughError (pa_cons (uv 0) (pa_cons pe_str pa_nil)))) (pss_cons (ps_osS (B := "ValueError") (BI := "ValueError") (newId := "ValueError.__new__") (uv 0) (uv 1)) (pss_one (ps_osS (B := "ValueError") (BI := "ValueError") (newId := "ValueError.__new__") (uv 0) (uv 2)))), ?_⟩
  refine g_seq (g_drop ?_)
  show tCons (uV 0) _ _ _ _
  walk_at "go"
  refine ⟨C, by decide, ho, ha, ?_⟩
  walk_at "go"
  refine ⟨a, C, rfl, ho, n1, .inl ⟨ha, fun dx hd ne => ?_⟩⟩
  walk_at "go"
  refine ⟨a, C, rfl, ho, n2, .inr ⟨dx, _, upd_same, ?_, by simp, q dx hd ne⟩⟩
  rw [upd_ne ne, upd_same]
theorem kb_NoTurner_pos (T : Txt K mg) : KBn K T.dI_NoTurner ["self", "word", "maker"] 3 [] (fun us _ => us) (fun vs _ => vs) :=
  kb_fun (ps := ["self", "word", "maker"]) T.FI_NoTurner 3 [] (fun us _ => us) (fun r1 _ => r1) fun _ _ _ _ _ _ us ws h1 h2 => match us, h1, ws, h2 with | [_, _, _], _, [], _ => rfl
theorem kb_NoTurner_word_maker (T : Txt K mg) : KBn K T.dI_NoTurner ["self", "word", "maker"] 1 ["word", "maker"] (fun us ws => us ++ ws) (fun vs zs => vs ++ zs) :=
  kb_fun (ps := ["self", "word", "maker"]) T.FI_NoTurner 1 ["word", "maker"] (fun us ws => us ++ ws) (fun r1 r2 => r1.append r2) fun _ _ _ _ _ _ us ws h1 h2 => match us, h1, ws, h2 with | [_], _, [_, _], _ => rfl
theorem ok_init_TooWide (T : Txt K mg) : FnOk P w K mg base (L2.CX P w) 1 T.aI_TooWide T.dI_TooWide ["self", "rooms"] (spS1 K "ValueError" "ValueError" "ValueError.__new__" "rooms") := by
  refine T.FI_TooWide.okX scI_TooWide (fun vs H Q E h => ?_) (fun cdv A outer s H vs Q E hr h => ?_)
  · obtain ⟨_, _, _, rfl, _⟩ := h
    rfl
  obtain ⟨a, C, y, rfl, ho, n1, ha, q⟩ := h
  refine ⟨_, pss_cons (ps_expr (pe_xinitSO (B := "ValueError") (BI := "ValueError") (newId := "ValueError.__new__") (IniF.of PySem.F.excBase_ValueError) T.h_BoughError (by decide +kernel) rfl T.m_BoughError (pa_cons (uv 0) (pa_cons pe_str pa_nil)))) (pss_one (ps_osS (B := "ValueError") (BI := "ValueError") (newId := "ValueError.__new__") (uv 0) (uv 1))), ?_⟩
  refine g_seq (g_drop ?_)
  show tCons (uV 0) _ _ _ _
  walk_at "go"
  refine ⟨C, by decide, ho, ha, ?_⟩
  walk_at "go"
  refine ⟨a, C, rfl, ho, n1, .inl ⟨ha, fun dx hd ne => ?_⟩⟩
  exact q dx hd ne
theorem kb_TooWide_pos (T : Txt K mg) : KBn K T.dI_TooWide ["self", "rooms"] 2 [] (fun us _ => us) (fun vs _ => vs) :=
  kb_fun (ps := ["self", "rooms"]) T.FI_TooWide 2 [] (fun us _ => us) (fun r1 _ => r1) fun _ _ _ _ _ _ us ws h1 h2 => match us, h1, ws, h2 with | [_, _], _, [], _ => rfl
theorem kb_TooWide_rooms (T : Txt K mg) : KBn K T.dI_TooWide ["self", "rooms"] 1 ["rooms"] (fun us ws => us ++ ws) (fun vs zs => vs ++ zs) :=
  kb_fun (ps := ["self", "rooms"]) T.FI_TooWide 1 ["rooms"] (fun us ws => us ++ ws) (fun r1 r2 => r1.append r2) fun _ _ _ _ _ _ us ws h1 h2 => match us, h1, ws, h2 with | [_], _, [_], _ => rfl
theorem ok_init_NoRow (T : Txt K mg) : FnOk P w K mg base (L2.CX P w) 1 T.aI_NoRow T.dI_NoRow ["self"] (spS0 K "ValueError" "ValueError" "ValueError.__new__" ) := by
  refine T.FI_NoRow.okX scI_NoRow (fun vs H Q E h => ?_) (fun cdv A outer s H vs Q E hr h => ?_)
  · obtain ⟨_, _, rfl, _⟩ := h
    rfl
  obtain ⟨a, C, rfl, ho, ha, q⟩ := h
  refine ⟨_, pss_one (ps_expr (pe_xinitSO (B := "ValueError") (BI := "ValueError") (newId := "ValueError.__new__") (IniF.of PySem.F.excBase_ValueError) T.h_BoughError (by decide +kernel) rfl T.m_BoughError (pa_cons (uv 0) (pa_cons pe_str pa_nil)))), ?_⟩
  refine g_drop ?_
  show tCons (uV 0) _ _ _ _
  walk_at "go"
  exact ⟨C, by decide, ho, ha, q⟩
theorem kb_NoRow_pos (T : Txt K mg) : KBn K T.dI_NoRow ["self"] 1 [] (fun us _ => us) (fun vs _ => vs) :=
  kb_fun (ps := ["self"]) T.FI_NoRow 1 [] (fun us _ => us) (fun r1 _ => r1) fun _ _ _ _ _ _ us ws h1 h2 => match us, h1, ws, h2 with | [_], _, [], _ => rfl
theorem ok_init_Nought (T : Txt K mg) : FnOk P w K mg base (L2.CX P w) 1 T.aI_Nought T.dI_Nought ["self"] (spS0 K "ZeroDivisionError" "ZeroDivisionError" "ZeroDivisionError.__new__" ) := by
  refine T.FI_Nought.okX scI_Nought (fun vs H Q E h => ?_) (fun cdv A outer s H vs Q E hr h => ?_)
  · obtain ⟨_, _, rfl, _⟩ := h
    rfl
  obtain ⟨a, C, rfl, ho, ha, q⟩ := h
  refine ⟨_, pss_one (ps_expr (pe_xinitSB (B := "ZeroDivisionError") (BI := "ZeroDivisionError") (newId := "ZeroDivisionError.__new__") (IniF.of PySem.F.excBase_ZeroDivisionError) (by kernel_rfl) (by decide +kernel) rfl T.z_ZeroDivisionError (by decide +kernel) T.v_ZeroDivisionError (by decide +kernel) (pa_cons (uv 0) (pa_cons pe_str pa_nil)))), ?_⟩
  refine g_drop ?_
  show tCons (uV 0) _ _ _ _
  walk_at "go"
  exact ⟨C, by decide, ho, ha, q⟩
theorem kb_Nought_pos (T : Txt K mg) : KBn K T.dI_Nought ["self"] 1 [] (fun us _ => us) (fun vs _ => vs) :=
  kb_fun (ps := ["self"]) T.FI_Nought 1 [] (fun us _ => us) (fun r1 _ => r1) fun _ _ _ _ _ _ us ws h1 h2 => match us, h1, ws, h2 with | [_], _, [], _ => rfl
theorem ok_init_NotKept (T : Txt K mg) : FnOk P w K mg base (L2.CX P w) 1 T.aI_NotKept T.dI_NotKept ["self", "name"] (spS1 K "LookupError" "KeyError" "LookupError.__new__" "name") := by
  refine T.FI_NotKept.okX scI_NotKept (fun vs H Q E h => ?_) (fun cdv A outer s H vs Q E hr h => ?_)
  · obtain ⟨_, _, _, rfl, _⟩ := h
    rfl
  obtain ⟨a, C, y, rfl, ho, n1, ha, q⟩ := h
  refine ⟨_, pss_cons (ps_expr (pe_xinitSB (B := "LookupError") (BI := "KeyError") (newId := "LookupError.__new__") ini_K (by kernel_rfl) (by decide +kernel) rfl T.z_KeyError (by decide +kernel) T.v_KeyError (by decide +kernel) (pa_cons (uv 0) (pa_cons pe_str pa_nil)))) (pss_one (ps_osS (B := "LookupError") (BI := "KeyError") (newId := "LookupError.__new__") (uv 0) (uv 1))), ?_⟩
  refine g_seq (g_drop ?_)
  show tCons (uV 0) _ _ _ _
  walk_at "go"
  refine ⟨C, by decide, ho, ha, ?_⟩
  walk_at "go"
  refine ⟨a, C, rfl, ho, n1, .inl ⟨ha, fun dx hd ne => ?_⟩⟩
  exact q dx hd ne
theorem kb_NotKept_pos (T : Txt K mg) : KBn K T.dI_NotKept ["self", "name"] 2 [] (fun us _ => us) (fun vs _ => vs) :=
  kb_fun (ps := ["self", "name"]) T.FI_NotKept 2 [] (fun us _ => us) (fun r1 _ => r1) fun _ _ _ _ _ _ us ws h1 h2 => match us, h1, ws, h2 with | [_, _], _, [], _ => rfl
theorem kb_NotKept_name (T : Txt K mg) : KBn K T.dI_NotKept ["self", "name"] 1 ["name"] (fun us ws => us ++ ws) (fun vs zs => vs ++ zs) :=
  kb_fun (ps := ["self", "name"]) T.FI_NotKept 1 ["name"] (fun us ws => us ++ ws) (fun r1 r2 => r1.append r2) fun _ _ _ _ _ _ us ws h1 h2 => match us, h1, ws, h2 with | [_], _, [_], _ => rfl
theorem ok_init_NoBox (T : Txt K mg) : FnOk P w K mg base (L2.CX P w) 1 T.aI_NoBox T.dI_NoBox ["self", "box"] (spS1 K "IndexError" "IndexError" "IndexError.__new__" "box") := by
  refine T.FI_NoBox.okX scI_NoBox (fun vs H Q E h => ?_) (fun cdv A outer s H vs Q E hr h => ?_)
  · obtain ⟨_, _, _, rfl, _⟩ := h
    rfl
  obtain ⟨a, C, y, rfl, ho, n1, ha, q⟩ := h
  refine ⟨_, pss_cons (ps_expr (pe_xinitSB (B := "IndexError") (BI := "IndexError") (newId := "IndexError.__new__") (IniF.of PySem.F.excBase_IndexError) (by kernel_rfl) (by decide +kernel) rfl T.z_IndexError (by decide +kernel) T.v_IndexError (by decide +kernel) (pa_cons (uv 0) (pa_cons pe_str pa_nil)))) (pss_one (ps_osS (B := "IndexError") (BI := "IndexError") (newId := "IndexError.__new__") (uv 0) (uv 1))), ?_⟩
  refine g_seq (g_drop ?_)
  show tCons (uV 0) _ _ _ _
  walk_at "go"
  refine ⟨C, by decide, ho, ha, ?_⟩
  walk_at "go"
  refine ⟨a, C, rfl, ho, n1, .inl ⟨ha, fun dx hd ne => ?_⟩⟩
  exact q dx hd ne
theorem kb_NoBox_pos (T : Txt K mg) : KBn K T.dI_NoBox ["self", "box"] 2 [] (fun us _ => us) (fun vs _ => vs) :=
  kb_fun (ps := ["self", "box"]) T.FI_NoBox 2 [] (fun us _ => us) (fun r1 _ => r1) fun _ _ _ _ _ _ us ws h1 h2 => match us, h1, ws, h2 with | [_, _], _, [], _ => rfl
theorem kb_NoBox_box (T : Txt K mg) : KBn K T.dI_NoBox ["self", "box"] 1 ["box"] (fun us ws => us ++ ws) (fun vs zs => vs ++ zs) :=
  kb_fun (ps := ["self", "box"]) T.FI_NoBox 1 ["box"] (fun us ws => us ++ ws) (fun r1 r2 => r1.append r2) fun _ _ _ _ _ _ us ws h1 h2 => match us, h1, ws, h2 with | [_], _, [_], _ => rfl
theorem vi_law_box_0 : Vis (defScope s_law_box) "_law_script" := by first | exact Or.inl (by decide +kernel) | exact Or.inr (Or.inl (by decide +kernel)) | exact Or.inr (Or.inr (by decide +kernel))
theorem vi_law_box_1 : Vis (defScope s_law_box) "_law_k" := by first | exact Or.inl (by decide +kernel) | exact Or.inr (Or.inl (by decide +kernel)) | exact Or.inr (Or.inr (by decide +kernel))
theorem vi_law_box_2 : Vis (defScope s_law_box) "_law_cell" := by first | exact Or.inl (by decide +kernel) | exact Or.inr (Or.inl (by decide +kernel)) | exact Or.inr (Or.inr (by decide +kernel))
theorem vi_law_box_3 : Vis (defScope s_law_box) "_law_seed" := by first | exact Or.inl (by decide +kernel) | exact Or.inr (Or.inl (by decide +kernel)) | exact Or.inr (Or.inr (by decide +kernel))
theorem lo_law_box_2 : Loc (defScope s_law_box) "_law_cell" := by first | exact Or.inl (by decide +kernel) | exact Or.inr (by decide +kernel)
theorem lo_law_box_3 : Loc (defScope s_law_box) "_law_seed" := by first | exact Or.inl (by decide +kernel) | exact Or.inr (by decide +kernel)
theorem ok_law_box (T : Txt K mg) : FnOk P w K mg base (L2.CX P w) 1 T.a_law_box T.d_law_box ["_law_script", "_law_k"] (spBox K) := by
  refine T.F_law_box.okX sc_law_box (fun vs H Q E h => ?_) (fun cdv A outer s H vs Q E hr h => ?_)
  · obtain ⟨p, ns, k, rfl, _⟩ := h
    rfl
  obtain ⟨p, ns, k, rfl, hS, hl, q⟩ := h
  refine ⟨_, (pss_cons (ps_set (i := 2) sc_law_box.nd rfl lo_law_box_2 (pe_op uo_add (pe_op uo_mul pe_int (uv 1 (hv := vi_law_box_1))) pe_int))
      (C8.pss_cut (ps_if (pt_cmpR uo_lt (uv 1 (hv := vi_law_box_1)) (pe_callB uk_len rfl T.z_len boot_len (pa_cons (uv 0 (hv := vi_law_box_0)) pa_nil)) (nomark _)) (pss_one (ps_set (i := 2) sc_law_box.nd rfl lo_law_box_2 (pe_ix ux_seq (uv 0 (hv := vi_law_box_0)) (uv 1 (hv := vi_law_box_1)) (fun _ _ => rfl)))) (pss_one (ps_if (pt_cmpR uo_gt (pe_callB uk_len rfl T.z_len boot_len (pa_cons (uv 0 (hv := vi_law_box_0)) pa_nil)) pe_int (nomark _)) (pss_one (ps_set (i := 2) sc_law_box.nd rfl lo_law_box_2 (pe_op uo_add (uv 2 (hv := vi_law_box_2)) (pe_op uo_mul (pe_op uo_mod (pe_ix ux_seq (uv 0 (hv := vi_law_box_0)) (pe_op uo_mod (uv 1 (hv := vi_law_box_1)) (pe_callB uk_len rfl T.z_len boot_len (pa_cons (uv 0 (hv := vi_law_box_0)) pa_nil))) (fun _ _ => rfl)) pe_int) pe_int)))) pss_nil)))
      (pss_cons (ps_set (i := 3) sc_law_box.nd rfl lo_law_box_3 (pe_op uo_add (pe_op uo_mod (pe_op uo_add (pe_op uo_mul (pe_op uo_mod (uv 2 (hv := vi_law_box_2)) pe_int) pe_int) (pe_op uo_mul pe_int (uv 1 (hv := vi_law_box_1)))) pe_int) pe_int))
      (pss_one (ps_ret (pe_lst (pa_cons (pe_ix ux_seq (pe_lst (pa_cons pe_int (pa_cons (uv 2 (hv := vi_law_box_2)) pa_nil))) (pe_callTy uk_int rfl T.z_int boot_int (pa_cons (pe_cmpR uo_ge (uv 2 (hv := vi_law_box_2)) (pe_op uo_pow pe_int pe_int) (nomark _)) pa_nil)) (fun _ _ => rfl)) (pa_cons (uv 3 (hv := vi_law_box_3)) (pa_cons pe_int pa_nil))))))))), ?_⟩
  walk_at "go"
  refine ⟨fun σ' H' => (∃ x : Int, σ' = [some (V.ref p), some (V.int k), some (V.int x), none]) ∧ H' = H, ?_, ?_⟩
  · walk_at "go"
    refine i_d (fun c => ?_) fun c => ?_
    · walk_at "go"
      have c' : k < ns.length := by
        rw [List.length_map] at c
        omega
      refine g_ixSq hS (at_ints c') ?_
      walk_at "go"
      exact ⟨⟨_, rfl⟩, rfl⟩
    · walk_at "go"
      refine i_d (fun c => ?_) fun c => ?_
      · walk_at "go"
        have hn : (0 : Int) < ((ns.map V.int).length : Nat) := c
        have e : ((k : Int).fmod ((ns.map V.int).length : Nat)) = ((k % ns.length : Nat) : Int) := by
          rw [Int.fmod_eq_emod_of_nonneg _ (by omega), List.length_map]
          rfl
        have c' : k % ns.length < ns.length := Nat.mod_lt _ (by rw [List.length_map] at hn; omega)
        refine g_ixSq hS (by rw [e]; exact at_ints c') ?_
        walk_at "go"
        exact ⟨⟨_, rfl⟩, rfl⟩
      · walk_at "go"
        exact ⟨⟨_, rfl⟩, rfl⟩
  · rintro σ' H' ⟨⟨x, rfl⟩, rfl⟩
    walk_at "go"
    refine g_new fun a ha => ?_
    have h1 := @upd_same H' a (.lst [V.int 0, V.int x])
    walk_at "go"
    have fin : ∀ v : Int, atI [V.int 0, V.int x] (b2z (decide ((10 : Int) ^ Int.toNat 18 ≤ x))) = some (.int v) → _ := fun _ _ => True.intro
    have ev : ∃ v : Int, atI [V.int 0, V.int x] (b2z (decide ((10 : Int) ^ Int.toNat 18 ≤ x))) = some (.int v) := by
      by_cases c : (10 : Int) ^ Int.toNat 18 ≤ x
      · rw [decide_eq_true c]
        exact ⟨x, rfl⟩
      · rw [decide_eq_false c]
        exact ⟨0, rfl⟩
    obtain ⟨v, ev⟩ := ev
    refine g_ixL h1 ev ?_
    walk_at "go"
    refine g_new fun b hb => ?_
    have e1 : Ex H' (upd H' a (.lst [V.int 0, V.int x])) := Ex.new ha
    exact q _ _ (e1.free hb) (e1.trans (Ex.new hb)) ⟨_, _, _, upd_same⟩
theorem vi_law_take_0 : Vis (defScope s_law_take) "_law_draw" := by first | exact Or.inl (by decide +kernel) | exact Or.inr (Or.inl (by decide +kernel)) | exact Or.inr (Or.inr (by decide +kernel))
theorem vi_law_take_1 : Vis (defScope s_law_take) "_law_many" := by first | exact Or.inl (by decide +kernel) | exact Or.inr (Or.inl (by decide +kernel)) | exact Or.inr (Or.inr (by decide +kernel))
theorem vi_law_take_2 : Vis (defScope s_law_take) "_law_digit" := by first | exact Or.inl (by decide +kernel) | exact Or.inr (Or.inl (by decide +kernel)) | exact Or.inr (Or.inr (by decide +kernel))
theorem vi_law_take_3 : Vis (defScope s_law_take) "_law_one" := by first | exact Or.inl (by decide +kernel) | exact Or.inr (Or.inl (by decide +kernel)) | exact Or.inr (Or.inr (by decide +kernel))
theorem lo_law_take_2 : Loc (defScope s_law_take) "_law_digit" := by first | exact Or.inl (by decide +kernel) | exact Or.inr (by decide +kernel)
theorem lo_law_take_3 : Loc (defScope s_law_take) "_law_one" := by first | exact Or.inl (by decide +kernel) | exact Or.inr (by decide +kernel)
theorem ok_law_take (T : Txt K mg) : FnOk P w K mg base (L2.CX P w) 1 T.a_law_take T.d_law_take ["_law_draw", "_law_many"] spTake := by
  refine T.F_law_take.okX sc_law_take (fun vs H Q E h => ?_) (fun cdv A outer s H vs Q E hr h => ?_)
  · obtain ⟨p, m, rfl, _⟩ := h
    rfl
  obtain ⟨p, m, rfl, ⟨a, b, c, hp⟩, hm, hm2, q⟩ := h
  have hm0 : m ≠ 0 := by omega
  refine ⟨_, (pss_cons (ps_if (pt_cmpR uo_gt (pe_ix ux_seq (uv 0 (hv := vi_law_take_0)) pe_int (fun _ _ => rfl)) pe_int (nomark _)) (pss_cons (ps_set (i := 2) sc_law_take.nd rfl lo_law_take_2 (pe_op uo_mod (pe_ix ux_seq (uv 0 (hv := vi_law_take_0)) pe_int (fun _ _ => rfl)) (uv 1 (hv := vi_law_take_1))))
      (pss_cons (ps_asg (pe_op uo_fd (pe_ix ux_seq (uv 0 (hv := vi_law_take_0)) pe_int (fun _ _ => rfl)) (uv 1 (hv := vi_law_take_1))) (pg_sub (uv 0 (hv := vi_law_take_0)) pe_int set_list))
      (pss_one (ps_ret (uv 2 (hv := vi_law_take_2)))))) pss_nil)
      (pss_cons (ps_asg (pe_op uo_add (pe_ix ux_seq (uv 0 (hv := vi_law_take_0)) pe_int (fun _ _ => rfl)) pe_int) (pg_sub (uv 0 (hv := vi_law_take_0)) pe_int set_list))
      (pss_cons (ps_set (i := 3) sc_law_take.nd rfl lo_law_take_3 (pe_op uo_mod (pe_op uo_mul (pe_op uo_add (pe_ix ux_seq (uv 0 (hv := vi_law_take_0)) pe_int (fun _ _ => rfl)) (pe_op uo_mul pe_int (pe_ix ux_seq (uv 0 (hv := vi_law_take_0)) pe_int (fun _ _ => rfl)))) pe_int) pe_int))
      (pss_cons (ps_asg (pe_op uo_add (pe_op uo_mod (pe_op uo_add (pe_op uo_mul (uv 3 (hv := vi_law_take_3)) pe_int) pe_int) pe_int) pe_int) (pg_sub (uv 0 (hv := vi_law_take_0)) pe_int set_list))
      (pss_one (ps_ret (pe_op uo_mod (pe_op uo_fd (pe_op uo_add (pe_op uo_mul (uv 3 (hv := vi_law_take_3)) pe_int) (pe_ix ux_seq (uv 0 (hv := vi_law_take_0)) pe_int (fun _ _ => rfl))) pe_int) (uv 1 (hv := vi_law_take_1))))))))), ?_⟩
  walk_at "go"
  refine i_d (fun c1 => ?_) fun c1 => ?_
  · walk_at "go"
    refine g_i ?_ ⟨hm0, hm2⟩
    walk_at "go"
    refine g_setL hp (by rfl) ?_
    walk_at "go"
    exact q _ _ (fmod_pos hm).1 (fmod_pos hm).2 (But.upd (But.refl _ _)) ⟨_, _, _, upd_same⟩
  · walk_at "go"
    refine g_setL hp (by rfl) ?_
    have h1 : upd H p (.lst ([V.int a, V.int b, V.int c].set 2 (.int (c + 1)))) p = some (.lst [.int a, .int b, .int (c + 1)]) := upd_same
    walk_at "go"
    refine g_setL h1 (by rfl) ?_
    have h2 := @upd_same (upd H p (.lst ([V.int a, V.int b, V.int c].set 2 (.int (c + 1))))) p (.lst ([V.int a, V.int b, V.int (c + 1)].set 1 (.int ((((b + 104729 * (c + 1)) * 69623).fmod 2147483647 * 48271 + 30103).fmod 2147483629 + 1))))
    walk_at "go"
    exact q _ _ (fmod_pos hm).1 (fmod_pos hm).2 ((But.refl _ _).upd.upd) ⟨_, _, _, h2⟩
theorem vi_law_kinds_0 : Vis (defScope s_law_kinds) "_law_e" := by first | exact Or.inl (by decide +kernel) | exact Or.inr (Or.inl (by decide +kernel)) | exact Or.inr (Or.inr (by decide +kernel))
theorem vi_law_kinds_1 : Vis (defScope s_law_kinds) "_law_some" := by first | exact Or.inl (by decide +kernel) | exact Or.inr (Or.inl (by decide +kernel)) | exact Or.inr (Or.inr (by decide +kernel))
theorem lo_law_kinds_1 : Loc (defScope s_law_kinds) "_law_some" := by first | exact Or.inl (by decide +kernel) | exact Or.inr (by decide +kernel)
def clT {K : PySem.W.Frag} {mg : Str → Option Value} (T : Txt K mg) (k : Nat) : Addr := [T.a_NoText, T.a_NoWood, T.a_NoTree, T.a_NoWord, T.a_TooLong, T.a_NoReader, T.a_NoFit, T.a_NoPrinter, T.a_NoTurner, T.a_TooWide, T.a_NoRow, T.a_Nought, T.a_NotKept, T.a_NoBox].getD k 0
theorem kitS {K : PySem.W.Frag} {mg : Str → Option Value} (T : Txt K mg) : ∀ i j : Nat, i < 14 → j < 14 → PySem.W.kitOne K (.ref (clT T i)) (.ref (clT T j)) = some (decide (j = i))
  | 0, 0, _, _ => kit_own T.s0_NoText T.s0_NoText T.i0_NoText T.t0_NoText
  | 0, 1, _, _ => kit_own T.sk_0_1 T.s0_NoText T.i0_NoWood T.t0_NoWood
  | 0, 2, _, _ => kit_own T.sk_0_2 T.s0_NoText T.i0_NoTree T.t0_NoTree
  | 0, 3, _, _ => kit_own T.sk_0_3 T.s0_NoText T.i0_NoWord T.t0_NoWord
  | 0, 4, _, _ => kit_own T.sk_0_4 T.s0_NoText T.i0_TooLong T.t0_TooLong
  | 0, 5, _, _ => kit_own T.sk_0_5 T.s0_NoText T.i0_NoReader T.t0_NoReader
  | 0, 6, _, _ => kit_own T.sk_0_6 T.s0_NoText T.i0_NoFit T.t0_NoFit
  | 0, 7, _, _ => kit_own T.sk_0_7 T.s0_NoText T.i0_NoPrinter T.t0_NoPrinter
  | 0, 8, _, _ => kit_own T.sk_0_8 T.s0_NoText T.i0_NoTurner T.t0_NoTurner
  | 0, 9, _, _ => kit_own T.sk_0_9 T.s0_NoText T.i0_TooWide T.t0_TooWide
  | 0, 10, _, _ => kit_own T.sk_0_10 T.s0_NoText T.i0_NoRow T.t0_NoRow
  | 0, 11, _, _ => kit_own T.sk_0_11 T.s0_NoText T.i0_Nought T.t0_Nought
  | 0, 12, _, _ => kit_own T.sk_0_12 T.s0_NoText T.i0_NotKept T.t0_NotKept
  | 0, 13, _, _ => kit_own T.sk_0_13 T.s0_NoText T.i0_NoBox T.t0_NoBox
  | 1, 0, _, _ => kit_own T.sk_1_0 T.s0_NoWood T.i0_NoText T.t0_NoText
  | 1, 1, _, _ => kit_own T.s0_NoWood T.s0_NoWood T.i0_NoWood T.t0_NoWood
  | 1, 2, _, _ => kit_own T.sk_1_2 T.s0_NoWood T.i0_NoTree T.t0_NoTree
  | 1, 3, _, _ => kit_own T.sk_1_3 T.s0_NoWood T.i0_NoWord T.t0_NoWord
  | 1, 4, _, _ => kit_own T.sk_1_4 T.s0_NoWood T.i0_TooLong T.t0_TooLong
  | 1, 5, _, _ => kit_own T.sk_1_5 T.s0_NoWood T.i0_NoReader T.t0_NoReader
  | 1, 6, _, _ => kit_own T.sk_1_6 T.s0_NoWood T.i0_NoFit T.t0_NoFit
  | 1, 7, _, _ => kit_own T.sk_1_7 T.s0_NoWood T.i0_NoPrinter T.t0_NoPrinter
  | 1, 8, _, _ => kit_own T.sk_1_8 T.s0_NoWood T.i0_NoTurner T.t0_NoTurner
  | 1, 9, _, _ => kit_own T.sk_1_9 T.s0_NoWood T.i0_TooWide T.t0_TooWide
  | 1, 10, _, _ => kit_own T.sk_1_10 T.s0_NoWood T.i0_NoRow T.t0_NoRow
  | 1, 11, _, _ => kit_own T.sk_1_11 T.s0_NoWood T.i0_Nought T.t0_Nought
  | 1, 12, _, _ => kit_own T.sk_1_12 T.s0_NoWood T.i0_NotKept T.t0_NotKept
  | 1, 13, _, _ => kit_own T.sk_1_13 T.s0_NoWood T.i0_NoBox T.t0_NoBox
  | 2, 0, _, _ => kit_own T.sk_2_0 T.s0_NoTree T.i0_NoText T.t0_NoText
  | 2, 1, _, _ => kit_own T.sk_2_1 T.s0_NoTree T.i0_NoWood T.t0_NoWood
  | 2, 2, _, _ => kit_own T.s0_NoTree T.s0_NoTree T.i0_NoTree T.t0_NoTree
  | 2, 3, _, _ => kit_own T.sk_2_3 T.s0_NoTree T.i0_NoWord T.t0_NoWord
  | 2, 4, _, _ => kit_own T.sk_2_4 T.s0_NoTree T.i0_TooLong T.t0_TooLong
  | 2, 5, _, _ => kit_own T.sk_2_5 T.s0_NoTree T.i0_NoReader T.t0_NoReader
  | 2, 6, _, _ => kit_own T.sk_2_6 T.s0_NoTree T.i0_NoFit T.t0_NoFit
  | 2, 7, _, _ => kit_own T.sk_2_7 T.s0_NoTree T.i0_NoPrinter T.t0_NoPrinter
  | 2, 8, _, _ => kit_own T.sk_2_8 T.s0_NoTree T.i0_NoTurner T.t0_NoTurner
  | 2, 9, _, _ => kit_own T.sk_2_9 T.s0_NoTree T.i0_TooWide T.t0_TooWide
  | 2, 10, _, _ => kit_own T.sk_2_10 T.s0_NoTree T.i0_NoRow T.t0_NoRow
  | 2, 11, _, _ => kit_own T.sk_2_11 T.s0_NoTree T.i0_Nought T.t0_Nought
  | 2, 12, _, _ => kit_own T.sk_2_12 T.s0_NoTree T.i0_NotKept T.t0_NotKept
  | 2, 13, _, _ => kit_own T.sk_2_13 T.s0_NoTree T.i0_NoBox T.t0_NoBox
  | 3, 0, _, _ => kit_own T.sk_3_0 T.s0_NoWord T.i0_NoText T.t0_NoText
  | 3, 1, _, _ => kit_own T.sk_3_1 T.s0_NoWord T.i0_NoWood T.t0_NoWood
  | 3, 2, _, _ => kit_own T.sk_3_2 T.s0_NoWord T.i0_NoTree T.t0_NoTree
  | 3, 3, _, _ => kit_own T.s0_NoWord T.s0_NoWord T.i0_NoWord T.t0_NoWord
  | 3, 4, _, _ => kit_own T.sk_3_4 T.s0_NoWord T.i0_TooLong T.t0_TooLong
  | 3, 5, _, _ => kit_own T.sk_3_5 T.s0_NoWord T.i0_NoReader T.t0_NoReader
  | 3, 6, _, _ => kit_own T.sk_3_6 T.s0_NoWord T.i0_NoFit T.t0_NoFit
  | 3, 7, _, _ => kit_own T.sk_3_7 T.s0_NoWord T.i0_NoPrinter T.t0_NoPrinter
  | 3, 8, _, _ => kit_own T.sk_3_8 T.s0_NoWord T.i0_NoTurner T.t0_NoTurner
  | 3, 9, _, _ => kit_own T.sk_3_9 T.s0_NoWord T.i0_TooWide T.t0_TooWide
  | 3, 10, _, _ => kit_own T.sk_3_10 T.s0_NoWord T.i0_NoRow T.t0_NoRow
  | 3, 11, _, _ => kit_own T.sk_3_11 T.s0_NoWord T.i0_Nought T.t0_Nought
  | 3, 12, _, _ => kit_own T.sk_3_12 T.s0_NoWord T.i0_NotKept T.t0_NotKept
  | 3, 13, _, _ => kit_own T.sk_3_13 T.s0_NoWord T.i0_NoBox T.t0_NoBox
  | 4, 0, _, _ => kit_own T.sk_4_0 T.s0_TooLong T.i0_NoText T.t0_NoText
  | 4, 1, _, _ => kit_own T.sk_4_1 T.s0_TooLong T.i0_NoWood T.t0_NoWood
  | 4, 2, _, _ => kit_own T.sk_4_2 T.s0_TooLong T.i0_NoTree T.t0_NoTree
  | 4, 3, _, _ => kit_own T.sk_4_3 T.s0_TooLong T.i0_NoWord T.t0_NoWord
  | 4, 4, _, _ => kit_own T.s0_TooLong T.s0_TooLong T.i0_TooLong T.t0_TooLong
  | 4, 5, _, _ => kit_own T.sk_4_5 T.s0_TooLong T.i0_NoReader T.t0_NoReader
  | 4, 6, _, _ => kit_own T.sk_4_6 T.s0_TooLong T.i0_NoFit T.t0_NoFit
  | 4, 7, _, _ => kit_own T.sk_4_7 T.s0_TooLong T.i0_NoPrinter T.t0_NoPrinter
  | 4, 8, _, _ => kit_own T.sk_4_8 T.s0_TooLong T.i0_NoTurner T.t0_NoTurner
  | 4, 9, _, _ => kit_own T.sk_4_9 T.s0_TooLong T.i0_TooWide T.t0_TooWide
  | 4, 10, _, _ => kit_own T.sk_4_10 T.s0_TooLong T.i0_NoRow T.t0_NoRow
  | 4, 11, _, _ => kit_own T.sk_4_11 T.s0_TooLong T.i0_Nought T.t0_Nought
  | 4, 12, _, _ => kit_own T.sk_4_12 T.s0_TooLong T.i0_NotKept T.t0_NotKept
  | 4, 13, _, _ => kit_own T.sk_4_13 T.s0_TooLong T.i0_NoBox T.t0_NoBox
  | 5, 0, _, _ => kit_own T.sk_5_0 T.s0_NoReader T.i0_NoText T.t0_NoText
  | 5, 1, _, _ => kit_own T.sk_5_1 T.s0_NoReader T.i0_NoWood T.t0_NoWood
  | 5, 2, _, _ => kit_own T.sk_5_2 T.s0_NoReader T.i0_NoTree T.t0_NoTree
  | 5, 3, _, _ => kit_own T.sk_5_3 T.s0_NoReader T.i0_NoWord T.t0_NoWord
  | 5, 4, _, _ => kit_own T.sk_5_4 T.s0_NoReader T.i0_TooLong T.t0_TooLong
  | 5, 5, _, _ => kit_own T.s0_NoReader T.s0_NoReader T.i0_NoReader T.t0_NoReader
  | 5, 6, _, _ => kit_own T.sk_5_6 T.s0_NoReader T.i0_NoFit T.t0_NoFit
  | 5, 7, _, _ => kit_own T.sk_5_7 T.s0_NoReader T.i0_NoPrinter T.t0_NoPrinter
  | 5, 8, _, _ => kit_own T.sk_5_8 T.s0_NoReader T.i0_NoTurner T.t0_NoTurner
  | 5, 9, _, _ => kit_own T.sk_5_9 T.s0_NoReader T.i0_TooWide T.t0_TooWide
  | 5, 10, _, _ => kit_own T.sk_5_10 T.s0_NoReader T.i0_NoRow T.t0_NoRow
  | 5, 11, _, _ => kit_own T.sk_5_11 T.s0_NoReader T.i0_Nought T.t0_Nought
  | 5, 12, _, _ => kit_own T.sk_5_12 T.s0_NoReader T.i0_NotKept T.t0_NotKept
  | 5, 13, _, _ => kit_own T.sk_5_13 T.s0_NoReader T.i0_NoBox T.t0_NoBox
  | 6, 0, _, _ => kit_own T.sk_6_0 T.s0_NoFit T.i0_NoText T.t0_NoText
  | 6, 1, _, _ => kit_own T.sk_6_1 T.s0_NoFit T.i0_NoWood T.t0_NoWood
  | 6, 2, _, _ => kit_own T.sk_6_2 T.s0_NoFit T.i0_NoTree T.t0_NoTree
  | 6, 3, _, _ => kit_own T.sk_6_3 T.s0_NoFit T.i0_NoWord T.t0_NoWord
  | 6, 4, _, _ => kit_own T.sk_6_4 T.s0_NoFit T.i0_TooLong T.t0_TooLong
  | 6, 5, _, _ => kit_own T.sk_6_5 T.s0_NoFit T.i0_NoReader T.t0_NoReader
  | 6, 6, _, _ => kit_own T.s0_NoFit T.s0_NoFit T.i0_NoFit T.t0_NoFit
  | 6, 7, _, _ => kit_own T.sk_6_7 T.s0_NoFit T.i0_NoPrinter T.t0_NoPrinter
  | 6, 8, _, _ => kit_own T.sk_6_8 T.s0_NoFit T.i0_NoTurner T.t0_NoTurner
  | 6, 9, _, _ => kit_own T.sk_6_9 T.s0_NoFit T.i0_TooWide T.t0_TooWide
  | 6, 10, _, _ => kit_own T.sk_6_10 T.s0_NoFit T.i0_NoRow T.t0_NoRow
  | 6, 11, _, _ => kit_own T.sk_6_11 T.s0_NoFit T.i0_Nought T.t0_Nought
  | 6, 12, _, _ => kit_own T.sk_6_12 T.s0_NoFit T.i0_NotKept T.t0_NotKept
  | 6, 13, _, _ => kit_own T.sk_6_13 T.s0_NoFit T.i0_NoBox T.t0_NoBox
  | 7, 0, _, _ => kit_own T.sk_7_0 T.s0_NoPrinter T.i0_NoText T.t0_NoText
  | 7, 1, _, _ => kit_own T.sk_7_1 T.s0_NoPrinter T.i0_NoWood T.t0_NoWood
  | 7, 2, _, _ => kit_own T.sk_7_2 T.s0_NoPrinter T.i0_NoTree T.t0_NoTree
  | 7, 3, _, _ => kit_own T.sk_7_3 T.s0_NoPrinter T.i0_NoWord T.t0_NoWord
  | 7, 4, _, _ => kit_own T.sk_7_4 T.s0_NoPrinter T.i0_TooLong T.t0_TooLong
  | 7, 5, _, _ => kit_own T.sk_7_5 T.s0_NoPrinter T.i0_NoReader T.t0_NoReader
  | 7, 6, _, _ => kit_own T.sk_7_6 T.s0_NoPrinter T.i0_NoFit T.t0_NoFit
  | 7, 7, _, _ => kit_own T.s0_NoPrinter T.s0_NoPrinter T.i0_NoPrinter T.t0_NoPrinter
  | 7, 8, _, _ => kit_own T.sk_7_8 T.s0_NoPrinter T.i0_NoTurner T.t0_NoTurner
  | 7, 9, _, _ => kit_own T.sk_7_9 T.s0_NoPrinter T.i0_TooWide T.t0_TooWide
  | 7, 10, _, _ => kit_own T.sk_7_10 T.s0_NoPrinter T.i0_NoRow T.t0_NoRow
  | 7, 11, _, _ => kit_own T.sk_7_11 T.s0_NoPrinter T.i0_Nought T.t0_Nought
  | 7, 12, _, _ => kit_own T.sk_7_12 T.s0_NoPrinter T.i0_NotKept T.t0_NotKept
  | 7, 13, _, _ => kit_own T.sk_7_13 T.s0_NoPrinter T.i0_NoBox T.t0_NoBox
  | 8, 0, _, _ => kit_own T.sk_8_0 T.s0_NoTurner T.i0_NoText T.t0_NoText
  | 8, 1, _, _ => kit_own T.sk_8_1 T.s0_NoTurner T.i0_NoWood T.t0_NoWood
  | 8, 2, _, _ => kit_own T.sk_8_2 T.s0_NoTurner T.i0_NoTree T.t0_NoTree
  | 8, 3, _, _ => kit_own T.sk_8_3 T.s0_NoTurner T.i0_NoWord T.t0_NoWord
  | 8, 4, _, _ => kit_own T.sk_8_4 T.s0_NoTurner T.i0_TooLong T.t0_TooLong
  | 8, 5, _, _ => kit_own T.sk_8_5 T.s0_NoTurner T.i0_NoReader T.t0_NoReader
  | 8, 6, _, _ => kit_own T.sk_8_6 T.s0_NoTurner T.i0_NoFit T.t0_NoFit
  | 8, 7, _, _ => kit_own T.sk_8_7 T.s0_NoTurner T.i0_NoPrinter T.t0_NoPrinter
  | 8, 8, _, _ => kit_own T.s0_NoTurner T.s0_NoTurner T.i0_NoTurner T.t0_NoTurner
  | 8, 9, _, _ => kit_own T.sk_8_9 T.s0_NoTurner T.i0_TooWide T.t0_TooWide
  | 8, 10, _, _ => kit_own T.sk_8_10 T.s0_NoTurner T.i0_NoRow T.t0_NoRow
  | 8, 11, _, _ => kit_own T.sk_8_11 T.s0_NoTurner T.i0_Nought T.t0_Nought
  | 8, 12, _, _ => kit_own T.sk_8_12 T.s0_NoTurner T.i0_NotKept T.t0_NotKept
  | 8, 13, _, _ => kit_own T.sk_8_13 T.s0_NoTurner T.i0_NoBox T.t0_NoBox
  | 9, 0, _, _ => kit_own T.sk_9_0 T.s0_TooWide T.i0_NoText T.t0_NoText
  | 9, 1, _, _ => kit_own T.sk_9_1 T.s0_TooWide T.i0_NoWood T.t0_NoWood
  | 9, 2, _, _ => kit_own T.sk_9_2 T.s0_TooWide T.i0_NoTree T.t0_NoTree
  | 9, 3, _, _ => kit_own T.sk_9_3 T.s0_TooWide T.i0_NoWord T.t0_NoWord
  | 9, 4, _, _ => kit_own T.sk_9_4 T.s0_TooWide T.i0_TooLong T.t0_TooLong
  | 9, 5, _, _ => kit_own T.sk_9_5 T.s0_TooWide T.i0_NoReader T.t0_NoReader
  | 9, 6, _, _ => kit_own T.sk_9_6 T.s0_TooWide T.i0_NoFit T.t0_NoFit
  | 9, 7, _, _ => kit_own T.sk_9_7 T.s0_TooWide T.i0_NoPrinter T.t0_NoPrinter
  | 9, 8, _, _ => kit_own T.sk_9_8 T.s0_TooWide T.i0_NoTurner T.t0_NoTurner
  | 9, 9, _, _ => kit_own T.s0_TooWide T.s0_TooWide T.i0_TooWide T.t0_TooWide
  | 9, 10, _, _ => kit_own T.sk_9_10 T.s0_TooWide T.i0_NoRow T.t0_NoRow
  | 9, 11, _, _ => kit_own T.sk_9_11 T.s0_TooWide T.i0_Nought T.t0_Nought
  | 9, 12, _, _ => kit_own T.sk_9_12 T.s0_TooWide T.i0_NotKept T.t0_NotKept
  | 9, 13, _, _ => kit_own T.sk_9_13 T.s0_TooWide T.i0_NoBox T.t0_NoBox
  | 10, 0, _, _ => kit_own T.sk_10_0 T.s0_NoRow T.i0_NoText T.t0_NoText
  | 10, 1, _, _ => kit_own T.sk_10_1 T.s0_NoRow T.i0_NoWood T.t0_NoWood
  | 10, 2, _, _ => kit_own T.sk_10_2 T.s0_NoRow T.i0_NoTree T.t0_NoTree
  | 10, 3, _, _ => kit_own T.sk_10_3 T.s0_NoRow T.i0_NoWord T.t0_NoWord
  | 10, 4, _, _ => kit_own T.sk_10_4 T.s0_NoRow T.i0_TooLong T.t0_TooLong
  | 10, 5, _, _ => kit_own T.sk_10_5 T.s0_NoRow T.i0_NoReader T.t0_NoReader
  | 10, 6, _, _ => kit_own T.sk_10_6 T.s0_NoRow T.i0_NoFit T.t0_NoFit
  | 10, 7, _, _ => kit_own T.sk_10_7 T.s0_NoRow T.i0_NoPrinter T.t0_NoPrinter
  | 10, 8, _, _ => kit_own T.sk_10_8 T.s0_NoRow T.i0_NoTurner T.t0_NoTurner
  | 10, 9, _, _ => kit_own T.sk_10_9 T.s0_NoRow T.i0_TooWide T.t0_TooWide
  | 10, 10, _, _ => kit_own T.s0_NoRow T.s0_NoRow T.i0_NoRow T.t0_NoRow
  | 10, 11, _, _ => kit_own T.sk_10_11 T.s0_NoRow T.i0_Nought T.t0_Nought
  | 10, 12, _, _ => kit_own T.sk_10_12 T.s0_NoRow T.i0_NotKept T.t0_NotKept
  | 10, 13, _, _ => kit_own T.sk_10_13 T.s0_NoRow T.i0_NoBox T.t0_NoBox
  | 11, 0, _, _ => kit_own T.sk_11_0 T.s0_Nought T.i0_NoText T.t0_NoText
  | 11, 1, _, _ => kit_own T.sk_11_1 T.s0_Nought T.i0_NoWood T.t0_NoWood
  | 11, 2, _, _ => kit_own T.sk_11_2 T.s0_Nought T.i0_NoTree T.t0_NoTree
  | 11, 3, _, _ => kit_own T.sk_11_3 T.s0_Nought T.i0_NoWord T.t0_NoWord
  | 11, 4, _, _ => kit_own T.sk_11_4 T.s0_Nought T.i0_TooLong T.t0_TooLong
  | 11, 5, _, _ => kit_own T.sk_11_5 T.s0_Nought T.i0_NoReader T.t0_NoReader
  | 11, 6, _, _ => kit_own T.sk_11_6 T.s0_Nought T.i0_NoFit T.t0_NoFit
  | 11, 7, _, _ => kit_own T.sk_11_7 T.s0_Nought T.i0_NoPrinter T.t0_NoPrinter
  | 11, 8, _, _ => kit_own T.sk_11_8 T.s0_Nought T.i0_NoTurner T.t0_NoTurner
  | 11, 9, _, _ => kit_own T.sk_11_9 T.s0_Nought T.i0_TooWide T.t0_TooWide
  | 11, 10, _, _ => kit_own T.sk_11_10 T.s0_Nought T.i0_NoRow T.t0_NoRow
  | 11, 11, _, _ => kit_own T.s0_Nought T.s0_Nought T.i0_Nought T.t0_Nought
  | 11, 12, _, _ => kit_own T.sk_11_12 T.s0_Nought T.i0_NotKept T.t0_NotKept
  | 11, 13, _, _ => kit_own T.sk_11_13 T.s0_Nought T.i0_NoBox T.t0_NoBox
  | 12, 0, _, _ => kit_own T.sk_12_0 T.s0_NotKept T.i0_NoText T.t0_NoText
  | 12, 1, _, _ => kit_own T.sk_12_1 T.s0_NotKept T.i0_NoWood T.t0_NoWood
  | 12, 2, _, _ => kit_own T.sk_12_2 T.s0_NotKept T.i0_NoTree T.t0_NoTree
  | 12, 3, _, _ => kit_own T.sk_12_3 T.s0_NotKept T.i0_NoWord T.t0_NoWord
  | 12, 4, _, _ => kit_own T.sk_12_4 T.s0_NotKept T.i0_TooLong T.t0_TooLong
  | 12, 5, _, _ => kit_own T.sk_12_5 T.s0_NotKept T.i0_NoReader T.t0_NoReader
  | 12, 6, _, _ => kit_own T.sk_12_6 T.s0_NotKept T.i0_NoFit T.t0_NoFit
  | 12, 7, _, _ => kit_own T.sk_12_7 T.s0_NotKept T.i0_NoPrinter T.t0_NoPrinter
  | 12, 8, _, _ => kit_own T.sk_12_8 T.s0_NotKept T.i0_NoTurner T.t0_NoTurner
  | 12, 9, _, _ => kit_own T.sk_12_9 T.s0_NotKept T.i0_TooWide T.t0_TooWide
  | 12, 10, _, _ => kit_own T.sk_12_10 T.s0_NotKept T.i0_NoRow T.t0_NoRow
  | 12, 11, _, _ => kit_own T.sk_12_11 T.s0_NotKept T.i0_Nought T.t0_Nought
  | 12, 12, _, _ => kit_own T.s0_NotKept T.s0_NotKept T.i0_NotKept T.t0_NotKept
  | 12, 13, _, _ => kit_own T.sk_12_13 T.s0_NotKept T.i0_NoBox T.t0_NoBox
  | 13, 0, _, _ => kit_own T.sk_13_0 T.s0_NoBox T.i0_NoText T.t0_NoText
  | 13, 1, _, _ => kit_own T.sk_13_1 T.s0_NoBox T.i0_NoWood T.t0_NoWood
  | 13, 2, _, _ => kit_own T.sk_13_2 T.s0_NoBox T.i0_NoTree T.t0_NoTree
  | 13, 3, _, _ => kit_own T.sk_13_3 T.s0_NoBox T.i0_NoWord T.t0_NoWord
  | 13, 4, _, _ => kit_own T.sk_13_4 T.s0_NoBox T.i0_TooLong T.t0_TooLong
  | 13, 5, _, _ => kit_own T.sk_13_5 T.s0_NoBox T.i0_NoReader T.t0_NoReader
  | 13, 6, _, _ => kit_own T.sk_13_6 T.s0_NoBox T.i0_NoFit T.t0_NoFit
  | 13, 7, _, _ => kit_own T.sk_13_7 T.s0_NoBox T.i0_NoPrinter T.t0_NoPrinter
  | 13, 8, _, _ => kit_own T.sk_13_8 T.s0_NoBox T.i0_NoTurner T.t0_NoTurner
  | 13, 9, _, _ => kit_own T.sk_13_9 T.s0_NoBox T.i0_TooWide T.t0_TooWide
  | 13, 10, _, _ => kit_own T.sk_13_10 T.s0_NoBox T.i0_NoRow T.t0_NoRow
  | 13, 11, _, _ => kit_own T.sk_13_11 T.s0_NoBox T.i0_Nought T.t0_Nought
  | 13, 12, _, _ => kit_own T.sk_13_12 T.s0_NoBox T.i0_NotKept T.t0_NotKept
  | 13, 13, _, _ => kit_own T.s0_NoBox T.s0_NoBox T.i0_NoBox T.t0_NoBox
  | 0, j + 14, _, h => absurd h (by omega)
  | 1, j + 14, _, h => absurd h (by omega)
  | 2, j + 14, _, h => absurd h (by omega)
  | 3, j + 14, _, h => absurd h (by omega)
  | 4, j + 14, _, h => absurd h (by omega)
  | 5, j + 14, _, h => absurd h (by omega)
  | 6, j + 14, _, h => absurd h (by omega)
  | 7, j + 14, _, h => absurd h (by omega)
  | 8, j + 14, _, h => absurd h (by omega)
  | 9, j + 14, _, h => absurd h (by omega)
  | 10, j + 14, _, h => absurd h (by omega)
  | 11, j + 14, _, h => absurd h (by omega)
  | 12, j + 14, _, h => absurd h (by omega)
  | 13, j + 14, _, h => absurd h (by omega)
  | i + 14, _, h, _ => absurd h (by omega)
theorem excS {K : PySem.W.Frag} {mg : Str → Option Value} (T : Txt K mg) : ∀ i : Nat, i < 14 → ExcC K (clT T i)
  | 0, _ => T.c_NoText
  | 1, _ => T.c_NoWood
  | 2, _ => T.c_NoTree
  | 3, _ => T.c_NoWord
  | 4, _ => T.c_TooLong
  | 5, _ => T.c_NoReader
  | 6, _ => T.c_NoFit
  | 7, _ => T.c_NoPrinter
  | 8, _ => T.c_NoTurner
  | 9, _ => T.c_TooWide
  | 10, _ => T.c_NoRow
  | 11, _ => T.c_Nought
  | 12, _ => T.c_NotKept
  | 13, _ => T.c_NoBox
  | i + 14, h => absurd h (by omega)
theorem ok_law_kinds (T : Txt K mg) : FnOk P w K mg base (L2.CX P w) 1 T.a_law_kinds T.d_law_kinds ["_law_e"] (spKindsS (clT T)) := by
  refine T.F_law_kinds.okX sc_law_kinds (fun vs H Q E h => ?_) (fun cdv A outer s H vs Q E hr h => ?_)
  · obtain ⟨_, _, _, rfl, _⟩ := h
    rfl
  obtain ⟨k, a, fs, rfl, hk, ea, q⟩ := h
  refine ⟨_, (pss_cons (ps_set (i := 1) sc_law_kinds.nd rfl lo_law_kinds_1 (pe_lst (pa_cons (pe_callB (uk_isV K) rfl T.z_isinstance boot_isinstance (pa_cons (uv 0 (hv := vi_law_kinds_0)) (pa_cons (pe_glob (v := .ref T.a_NoText) rfl T.m_NoText rfl) pa_nil))) (pa_cons (pe_callB (uk_isV K) rfl T.z_isinstance boot_isinstance (pa_cons (uv 0 (hv := vi_law_kinds_0)) (pa_cons (pe_glob (v := .ref T.a_NoWood) rfl T.m_NoWood rfl) pa_nil))) (pa_cons (pe_callB (uk_isV K) rfl T.z_isinstance boot_isinstance (pa_cons (uv 0 (hv := vi_law_kinds_0)) (pa_cons (pe_glob (v := .ref T.a_NoTree) rfl T.m_NoTree rfl) pa_nil))) (pa_cons (pe_callB (uk_isV K) rfl T.z_isinstance boot_isinstance (pa_cons (uv 0 (hv := vi_law_kinds_0)) (pa_cons (pe_glob (v := .ref T.a_NoWord) rfl T.m_NoWord rfl) pa_nil))) pa_nil))))))
      (pss_cons (ps_set (i := 1) sc_law_kinds.nd rfl lo_law_kinds_1 (pe_op uo_add (uv 1 (hv := vi_law_kinds_1)) (pe_lst (pa_cons (pe_callB (uk_isV K) rfl T.z_isinstance boot_isinstance (pa_cons (uv 0 (hv := vi_law_kinds_0)) (pa_cons (pe_glob (v := .ref T.a_TooLong) rfl T.m_TooLong rfl) pa_nil))) (pa_cons (pe_callB (uk_isV K) rfl T.z_isinstance boot_isinstance (pa_cons (uv 0 (hv := vi_law_kinds_0)) (pa_cons (pe_glob (v := .ref T.a_NoReader) rfl T.m_NoReader rfl) pa_nil))) (pa_cons (pe_callB (uk_isV K) rfl T.z_isinstance boot_isinstance (pa_cons (uv 0 (hv := vi_law_kinds_0)) (pa_cons (pe_glob (v := .ref T.a_NoFit) rfl T.m_NoFit rfl) pa_nil))) (pa_cons (pe_callB (uk_isV K) rfl T.z_isinstance boot_isinstance (pa_cons (uv 0 (hv := vi_law_kinds_0)) (pa_cons (pe_glob (v := .ref T.a_NoPrinter) rfl T.m_NoPrinter rfl) pa_nil))) pa_nil)))))))
      (pss_cons (ps_set (i := 1) sc_law_kinds.nd rfl lo_law_kinds_1 (pe_op uo_add (uv 1 (hv := vi_law_kinds_1)) (pe_lst (pa_cons (pe_callB (uk_isV K) rfl T.z_isinstance boot_isinstance (pa_cons (uv 0 (hv := vi_law_kinds_0)) (pa_cons (pe_glob (v := .ref T.a_NoTurner) rfl T.m_NoTurner rfl) pa_nil))) (pa_cons (pe_callB (uk_isV K) rfl T.z_isinstance boot_isinstance (pa_cons (uv 0 (hv := vi_law_kinds_0)) (pa_cons (pe_glob (v := .ref T.a_TooWide) rfl T.m_TooWide rfl) pa_nil))) (pa_cons (pe_callB (uk_isV K) rfl T.z_isinstance boot_isinstance (pa_cons (uv 0 (hv := vi_law_kinds_0)) (pa_cons (pe_glob (v := .ref T.a_NoRow) rfl T.m_NoRow rfl) pa_nil))) (pa_cons (pe_callB (uk_isV K) rfl T.z_isinstance boot_isinstance (pa_cons (uv 0 (hv := vi_law_kinds_0)) (pa_cons (pe_glob (v := .ref T.a_Nought) rfl T.m_Nought rfl) pa_nil))) pa_nil)))))))
      (pss_one (ps_ret (pe_op uo_add (uv 1 (hv := vi_law_kinds_1)) (pe_lst (pa_cons (pe_callB (uk_isV K) rfl T.z_isinstance boot_isinstance (pa_cons (uv 0 (hv := vi_law_kinds_0)) (pa_cons (pe_glob (v := .ref T.a_NotKept) rfl T.m_NotKept rfl) pa_nil))) (pa_cons (pe_callB (uk_isV K) rfl T.z_isinstance boot_isinstance (pa_cons (uv 0 (hv := vi_law_kinds_0)) (pa_cons (pe_glob (v := .ref T.a_NoBox) rfl T.m_NoBox rfl) pa_nil))) pa_nil))))))))), ?_⟩
  have ec := excS T k hk
  have e0 : Ex H H := Ex.refl _
  walk_at "go"
  refine g_isV (ea.ex e0) ec (kitS T k 0 hk (by decide)) ?_
  walk_at "go"
  refine g_isV (ea.ex e0) ec (kitS T k 1 hk (by decide)) ?_
  walk_at "go"
  refine g_isV (ea.ex e0) ec (kitS T k 2 hk (by decide)) ?_
  walk_at "go"
  refine g_isV (ea.ex e0) ec (kitS T k 3 hk (by decide)) ?_
  walk_at "go"
  refine g_new fun L0 hL => ?_
  have eL := Ex.new (o := .lst [.bl (decide (0 = k)), .bl (decide (1 = k)), .bl (decide (2 = k)), .bl (decide (3 = k))]) hL
  have gL0 : upd H L0 (.lst [.bl (decide (0 = k)), .bl (decide (1 = k)), .bl (decide (2 = k)), .bl (decide (3 = k))]) L0 = some (.lst [.bl (decide (0 = k)), .bl (decide (1 = k)), .bl (decide (2 = k)), .bl (decide (3 = k))]) := upd_same
  have f0 := e0.trans eL
  clear hL
  revert eL gL0 f0
  generalize upd H L0 (.lst [.bl (decide (0 = k)), .bl (decide (1 = k)), .bl (decide (2 = k)), .bl (decide (3 = k))]) = HL0
  intro eL gL0 f0
  walk_at "go"
  refine g_isV (ea.ex f0) ec (kitS T k 4 hk (by decide)) ?_
  walk_at "go"
  refine g_isV (ea.ex f0) ec (kitS T k 5 hk (by decide)) ?_
  walk_at "go"
  refine g_isV (ea.ex f0) ec (kitS T k 6 hk (by decide)) ?_
  walk_at "go"
  refine g_isV (ea.ex f0) ec (kitS T k 7 hk (by decide)) ?_
  walk_at "go"
  refine g_new fun L1 hL => ?_
  have eL := Ex.new (o := .lst [.bl (decide (4 = k)), .bl (decide (5 = k)), .bl (decide (6 = k)), .bl (decide (7 = k))]) hL
  have gL1 : upd HL0 L1 (.lst [.bl (decide (4 = k)), .bl (decide (5 = k)), .bl (decide (6 = k)), .bl (decide (7 = k))]) L1 = some (.lst [.bl (decide (4 = k)), .bl (decide (5 = k)), .bl (decide (6 = k)), .bl (decide (7 = k))]) := upd_same
  have f1 := f0.trans eL
  clear hL
  revert eL gL1 f1
  generalize upd HL0 L1 (.lst [.bl (decide (4 = k)), .bl (decide (5 = k)), .bl (decide (6 = k)), .bl (decide (7 = k))]) = HL1
  intro eL gL1 f1
  walk_at "go"
  refine g_catL (eL _ _ gL0) gL1 (by simp) fun M1 hM => ?_
  have eM := Ex.new (o := .lst ([.bl (decide (0 = k)), .bl (decide (1 = k)), .bl (decide (2 = k)), .bl (decide (3 = k))] ++ [.bl (decide (4 = k)), .bl (decide (5 = k)), .bl (decide (6 = k)), .bl (decide (7 = k))])) hM
  have gM1 : upd HL1 M1 (.lst ([.bl (decide (0 = k)), .bl (decide (1 = k)), .bl (decide (2 = k)), .bl (decide (3 = k))] ++ [.bl (decide (4 = k)), .bl (decide (5 = k)), .bl (decide (6 = k)), .bl (decide (7 = k))])) M1 = some (.lst [.bl (decide (0 = k)), .bl (decide (1 = k)), .bl (decide (2 = k)), .bl (decide (3 = k)), .bl (decide (4 = k)), .bl (decide (5 = k)), .bl (decide (6 = k)), .bl (decide (7 = k))]) := upd_same
  have m1 := f1.trans eM
  clear hM eL
  revert eM gM1 m1
  generalize upd HL1 M1 (.lst ([.bl (decide (0 = k)), .bl (decide (1 = k)), .bl (decide (2 = k)), .bl (decide (3 = k))] ++ [.bl (decide (4 = k)), .bl (decide (5 = k)), .bl (decide (6 = k)), .bl (decide (7 = k))])) = HM1
  intro eM gM1 m1
  clear eM f1 gL1
  walk_at "go"
  refine g_isV (ea.ex m1) ec (kitS T k 8 hk (by decide)) ?_
  walk_at "go"
  refine g_isV (ea.ex m1) ec (kitS T k 9 hk (by decide)) ?_
  walk_at "go"
  refine g_isV (ea.ex m1) ec (kitS T k 10 hk (by decide)) ?_
  walk_at "go"
  refine g_isV (ea.ex m1) ec (kitS T k 11 hk (by decide)) ?_
  walk_at "go"
  refine g_new fun L2 hL => ?_
  have eL := Ex.new (o := .lst [.bl (decide (8 = k)), .bl (decide (9 = k)), .bl (decide (10 = k)), .bl (decide (11 = k))]) hL
  have gL2 : upd HM1 L2 (.lst [.bl (decide (8 = k)), .bl (decide (9 = k)), .bl (decide (10 = k)), .bl (decide (11 = k))]) L2 = some (.lst [.bl (decide (8 = k)), .bl (decide (9 = k)), .bl (decide (10 = k)), .bl (decide (11 = k))]) := upd_same
  have f2 := m1.trans eL
  clear hL
  revert eL gL2 f2
  generalize upd HM1 L2 (.lst [.bl (decide (8 = k)), .bl (decide (9 = k)), .bl (decide (10 = k)), .bl (decide (11 = k))]) = HL2
  intro eL gL2 f2
  walk_at "go"
  refine g_catL (eL _ _ gM1) gL2 (by simp) fun M2 hM => ?_
  have eM := Ex.new (o := .lst ([.bl (decide (0 = k)), .bl (decide (1 = k)), .bl (decide (2 = k)), .bl (decide (3 = k)), .bl (decide (4 = k)), .bl (decide (5 = k)), .bl (decide (6 = k)), .bl (decide (7 = k))] ++ [.bl (decide (8 = k)), .bl (decide (9 = k)), .bl (decide (10 = k)), .bl (decide (11 = k))])) hM
  have gM2 : upd HL2 M2 (.lst ([.bl (decide (0 = k)), .bl (decide (1 = k)), .bl (decide (2 = k)), .bl (decide (3 = k)), .bl (decide (4 = k)), .bl (decide (5 = k)), .bl (decide (6 = k)), .bl (decide (7 = k))] ++ [.bl (decide (8 = k)), .bl (decide (9 = k)), .bl (decide (10 = k)), .bl (decide (11 = k))])) M2 = some (.lst [.bl (decide (0 = k)), .bl (decide (1 = k)), .bl (decide (2 = k)), .bl (decide (3 = k)), .bl (decide (4 = k)), .bl (decide (5 = k)), .bl (decide (6 = k)), .bl (decide (7 = k)), .bl (decide (8 = k)), .bl (decide (9 = k)), .bl (decide (10 = k)), .bl (decide (11 = k))]) := upd_same
  have m2 := f2.trans eM
  clear hM eL
  revert eM gM2 m2
  generalize upd HL2 M2 (.lst ([.bl (decide (0 = k)), .bl (decide (1 = k)), .bl (decide (2 = k)), .bl (decide (3 = k)), .bl (decide (4 = k)), .bl (decide (5 = k)), .bl (decide (6 = k)), .bl (decide (7 = k))] ++ [.bl (decide (8 = k)), .bl (decide (9 = k)), .bl (decide (10 = k)), .bl (decide (11 = k))])) = HM2
  intro eM gM2 m2
  clear eM f2 gL2
  walk_at "go"
  refine g_isV (ea.ex m2) ec (kitS T k 12 hk (by decide)) ?_
  walk_at "go"
  refine g_isV (ea.ex m2) ec (kitS T k 13 hk (by decide)) ?_
  walk_at "go"
  refine g_new fun L3 hL => ?_
  have eL := Ex.new (o := .lst [.bl (decide (12 = k)), .bl (decide (13 = k))]) hL
  have gL3 : upd HM2 L3 (.lst [.bl (decide (12 = k)), .bl (decide (13 = k))]) L3 = some (.lst [.bl (decide (12 = k)), .bl (decide (13 = k))]) := upd_same
  have f3 := m2.trans eL
  clear hL
  revert eL gL3 f3
  generalize upd HM2 L3 (.lst [.bl (decide (12 = k)), .bl (decide (13 = k))]) = HL3
  intro eL gL3 f3
  walk_at "go"
  refine g_catL (eL _ _ gM2) gL3 (by simp) fun M3 hM => ?_
  have eM := Ex.new (o := .lst ([.bl (decide (0 = k)), .bl (decide (1 = k)), .bl (decide (2 = k)), .bl (decide (3 = k)), .bl (decide (4 = k)), .bl (decide (5 = k)), .bl (decide (6 = k)), .bl (decide (7 = k)), .bl (decide (8 = k)), .bl (decide (9 = k)), .bl (decide (10 = k)), .bl (decide (11 = k))] ++ [.bl (decide (12 = k)), .bl (decide (13 = k))])) hM
  have gM3 : upd HL3 M3 (.lst ([.bl (decide (0 = k)), .bl (decide (1 = k)), .bl (decide (2 = k)), .bl (decide (3 = k)), .bl (decide (4 = k)), .bl (decide (5 = k)), .bl (decide (6 = k)), .bl (decide (7 = k)), .bl (decide (8 = k)), .bl (decide (9 = k)), .bl (decide (10 = k)), .bl (decide (11 = k))] ++ [.bl (decide (12 = k)), .bl (decide (13 = k))])) M3 = some (.lst [.bl (decide (0 = k)), .bl (decide (1 = k)), .bl (decide (2 = k)), .bl (decide (3 = k)), .bl (decide (4 = k)), .bl (decide (5 = k)), .bl (decide (6 = k)), .bl (decide (7 = k)), .bl (decide (8 = k)), .bl (decide (9 = k)), .bl (decide (10 = k)), .bl (decide (11 = k)), .bl (decide (12 = k)), .bl (decide (13 = k))]) := upd_same
  have m3 := f3.trans eM
  clear hM eL
  revert eM gM3 m3
  generalize upd HL3 M3 (.lst ([.bl (decide (0 = k)), .bl (decide (1 = k)), .bl (decide (2 = k)), .bl (decide (3 = k)), .bl (decide (4 = k)), .bl (decide (5 = k)), .bl (decide (6 = k)), .bl (decide (7 = k)), .bl (decide (8 = k)), .bl (decide (9 = k)), .bl (decide (10 = k)), .bl (decide (11 = k))] ++ [.bl (decide (12 = k)), .bl (decide (13 = k))])) = HM3
  intro eM gM3 m3
  clear eM f3 gL3
  walk_at "go"
  exact q _ _ m3 gM3
theorem vi_law_fields_0 : Vis (defScope s_law_fields) "_law_some" := by first | exact Or.inl (by decide +kernel) | exact Or.inr (Or.inl (by decide +kernel)) | exact Or.inr (Or.inr (by decide +kernel))
theorem vi_law_fields_1 : Vis (defScope s_law_fields) "_law_one" := by first | exact Or.inl (by decide +kernel) | exact Or.inr (Or.inl (by decide +kernel)) | exact Or.inr (Or.inr (by decide +kernel))
theorem vi_law_fields_2 : Vis (defScope s_law_fields) "_law_other" := by first | exact Or.inl (by decide +kernel) | exact Or.inr (Or.inl (by decide +kernel)) | exact Or.inr (Or.inr (by decide +kernel))
theorem vi_law_fields_3 : Vis (defScope s_law_fields) "_law_found" := by first | exact Or.inl (by decide +kernel) | exact Or.inr (Or.inl (by decide +kernel)) | exact Or.inr (Or.inr (by decide +kernel))
theorem lo_law_fields_3 : Loc (defScope s_law_fields) "_law_found" := by first | exact Or.inl (by decide +kernel) | exact Or.inr (by decide +kernel)
theorem ok_law_fields (T : Txt K mg) : FnOk P w K mg base (L2.CX P w) 1 T.a_law_fields T.d_law_fields ["_law_some", "_law_one", "_law_other"] (spFieldsS (clT T)) := by
  refine T.F_law_fields.okX sc_law_fields (fun vs H Q E h => ?_) (fun cdv A outer s H vs Q E hr h => ?_)
  · obtain ⟨_, _, _, _, _, _, rfl, _⟩ := h
    rfl
  obtain ⟨L, as, y, z, d, e, rfl, m, td, te, rd, re, q⟩ := h
  refine ⟨_, (pss_cons (ps_set (i := 3) sc_law_fields.nd rfl lo_law_fields_3 (pe_lst (pa_cons (pe_xv K (pe_ix ux_seq (uv 0 (hv := vi_law_fields_0)) pe_int (fun _ _ => rfl))) (pa_cons (pe_xv K (pe_ix ux_seq (uv 0 (hv := vi_law_fields_0)) pe_int (fun _ _ => rfl))) (pa_cons (pe_xv K (pe_ix ux_seq (uv 0 (hv := vi_law_fields_0)) pe_int (fun _ _ => rfl))) (pa_cons (pe_xv K (pe_ix ux_seq (uv 0 (hv := vi_law_fields_0)) pe_int (fun _ _ => rfl))) (pa_cons (pe_xv K (pe_ix ux_seq (uv 0 (hv := vi_law_fields_0)) pe_int (fun _ _ => rfl))) (pa_cons (pe_xv K (pe_ix ux_seq (uv 0 (hv := vi_law_fields_0)) pe_int (fun _ _ => rfl))) (pa_cons (pe_xv K (pe_ix ux_seq (uv 0 (hv := vi_law_fields_0)) pe_int (fun _ _ => rfl))) (pa_cons (pe_xv K (pe_ix ux_seq (uv 0 (hv := vi_law_fields_0)) pe_int (fun _ _ => rfl))) pa_nil))))))))))
      (pss_cons (ps_if (pt_cmpR (op_neD hr.units) (uv 3 (hv := vi_law_fields_3)) (pe_op op_rep (pe_lst (pa_cons (uv 1 (hv := vi_law_fields_1)) pa_nil)) pe_int) (nomark _)) (pss_one (ps_ret pe_bl)) pss_nil)
      (pss_cons (ps_set (i := 3) sc_law_fields.nd rfl lo_law_fields_3 (pe_lst (pa_cons (pe_tup (pa_cons (pe_xv K (pe_ix ux_seq (uv 0 (hv := vi_law_fields_0)) pe_int (fun _ _ => rfl))) (pa_cons (pe_xv K (pe_ix ux_seq (uv 0 (hv := vi_law_fields_0)) pe_int (fun _ _ => rfl))) pa_nil))) (pa_cons (pe_tup (pa_cons (pe_xv K (pe_ix ux_seq (uv 0 (hv := vi_law_fields_0)) pe_int (fun _ _ => rfl))) (pa_cons (pe_xv K (pe_ix ux_seq (uv 0 (hv := vi_law_fields_0)) pe_int (fun _ _ => rfl))) pa_nil))) (pa_cons (pe_tup (pa_cons (pe_xv K (pe_ix ux_seq (uv 0 (hv := vi_law_fields_0)) pe_int (fun _ _ => rfl))) (pa_cons (pe_xv K (pe_ix ux_seq (uv 0 (hv := vi_law_fields_0)) pe_int (fun _ _ => rfl))) pa_nil))) pa_nil)))))
      (pss_one (ps_ret (pe_cmpR (op_eqD hr.units) (pe_op uo_add (uv 3 (hv := vi_law_fields_3)) (pe_lst (pa_cons (pe_tup (pa_cons (pe_xv K (pe_ix ux_seq (uv 0 (hv := vi_law_fields_0)) pe_int (fun _ _ => rfl))) (pa_cons (pe_xv K (pe_ix ux_seq (uv 0 (hv := vi_law_fields_0)) pe_int (fun _ _ => rfl))) pa_nil))) pa_nil))) (pe_op op_rep (pe_lst (pa_cons (pe_tup (pa_cons (uv 1 (hv := vi_law_fields_1)) (pa_cons (uv 2 (hv := vi_law_fields_2)) pa_nil))) pa_nil)) pe_int) (nomark _))))))), ?_⟩
  walk_at "go"
  refine g_xv ?_
  walk_at "go"
  refine g_atS m 0 (by decide) fun a ea => ?_
  refine g_xvO ea (excS T 0 (by decide)) T.n_NoText_row rfl ?_
  walk_at "go"
  refine g_xv ?_
  walk_at "go"
  refine g_atS m 2 (by decide) fun a ea => ?_
  refine g_xvO ea (excS T 2 (by decide)) T.n_NoTree_at rfl ?_
  walk_at "go"
  refine g_xv ?_
  walk_at "go"
  refine g_atS m 3 (by decide) fun a ea => ?_
  refine g_xvO ea (excS T 3 (by decide)) T.n_NoWord_at rfl ?_
  walk_at "go"
  refine g_xv ?_
  walk_at "go"
  refine g_atS m 4 (by decide) fun a ea => ?_
  refine g_xvO ea (excS T 4 (by decide)) T.n_TooLong_most rfl ?_
  walk_at "go"
  refine g_xv ?_
  walk_at "go"
  refine g_atS m 6 (by decide) fun a ea => ?_
  refine g_xvO ea (excS T 6 (by decide)) T.n_NoFit_at rfl ?_
  walk_at "go"
  refine g_xv ?_
  walk_at "go"
  refine g_atS m 9 (by decide) fun a ea => ?_
  refine g_xvO ea (excS T 9 (by decide)) T.n_TooWide_rooms rfl ?_
  walk_at "go"
  refine g_xv ?_
  walk_at "go"
  refine g_atS m 12 (by decide) fun a ea => ?_
  refine g_xvO ea (excS T 12 (by decide)) T.n_NotKept_name rfl ?_
  walk_at "go"
  refine g_xv ?_
  walk_at "go"
  refine g_atS m 13 (by decide) fun a ea => ?_
  refine g_xvO ea (excS T 13 (by decide)) T.n_NoBox_box rfl ?_
  walk_at "go"
  refine g_new fun L1 h1 => ?_
  have e1 := Ex.new (o := .lst [y, y, y, y, y, y, y, y]) h1
  have g1 : upd H L1 (.lst [y, y, y, y, y, y, y, y]) L1 = some (.lst (List.replicate 8 y)) := upd_same
  clear h1
  revert e1 g1
  generalize upd H L1 (.lst [y, y, y, y, y, y, y, y]) = H1
  intro e1 g1
  walk_at "go"
  refine g_new fun L2 h2 => ?_
  have e2 := Ex.new (o := .lst [y]) h2
  have g2 : upd H1 L2 (.lst [y]) L2 = some (.lst [y]) := upd_same
  clear h2
  revert e2 g2
  generalize upd H1 L2 (.lst [y]) = H2
  intro e2 g2
  walk_at "go"
  refine g_repN (n := 8) g2 (by decide) fun L3 h3 => ?_
  have e3 := Ex.new (o := .lst (List.replicate 8 y)) h3
  have g3 := @upd_same H2 L3 (.lst (List.replicate 8 y))
  clear h3
  revert e3 g3
  generalize upd H2 L3 (.lst (List.replicate 8 y)) = H3
  intro e3 g3
  have e03 := e1.trans (e2.trans e3)
  have rd3 := rd.ex e03
  walk_at "go"
  refine g_neSame (d := .lst (List.replicate 8 d)) ⟨_, _, rfl, (e2.trans e3) _ _ g1, rep_all rd3 8⟩ ⟨_, _, rfl, g3, rep_all rd3 8⟩ (sigs_all td.sig 8) ?_ ?_
  · have := deps_all td.dep 8
    show D.deps (List.replicate 8 d) + 1 ≤ 64
    omega
  walk_at "go"
  walk_at "go"
  refine g_xv ?_
  walk_at "go"
  refine g_atS (m.ex e03) 1 (by decide) fun a ea => ?_
  refine g_xvO ea (excS T 1 (by decide)) T.n_NoWood_word rfl ?_
  walk_at "go"
  refine g_xv ?_
  walk_at "go"
  refine g_atS (m.ex e03) 1 (by decide) fun a ea => ?_
  refine g_xvO ea (excS T 1 (by decide)) T.n_NoWood_name rfl ?_
  walk_at "go"
  refine g_new fun t0 h => ?_
  have x0 := Ex.new (o := .tup [y, z]) h
  have u0 := @upd_same H3 t0 (.tup [y, z])
  have c0 := e03.trans x0
  clear h
  revert x0 u0 c0
  generalize upd H3 t0 (.tup [y, z]) = K0
  intro x0 u0 c0
  walk_at "go"
  refine g_xv ?_
  walk_at "go"
  refine g_atS (m.ex c0) 5 (by decide) fun a ea => ?_
  refine g_xvO ea (excS T 5 (by decide)) T.n_NoReader_word rfl ?_
  walk_at "go"
  refine g_xv ?_
  walk_at "go"
  refine g_atS (m.ex c0) 5 (by decide) fun a ea => ?_
  refine g_xvO ea (excS T 5 (by decide)) T.n_NoReader_maker rfl ?_
  walk_at "go"
  refine g_new fun t1 h => ?_
  have x1 := Ex.new (o := .tup [y, z]) h
  have u1 := @upd_same K0 t1 (.tup [y, z])
  have c1 := c0.trans x1
  clear h
  revert x1 u1 c1
  generalize upd K0 t1 (.tup [y, z]) = K1
  intro x1 u1 c1
  walk_at "go"
  refine g_xv ?_
  walk_at "go"
  refine g_atS (m.ex c1) 7 (by decide) fun a ea => ?_
  refine g_xvO ea (excS T 7 (by decide)) T.n_NoPrinter_word rfl ?_
  walk_at "go"
  refine g_xv ?_
  walk_at "go"
  refine g_atS (m.ex c1) 7 (by decide) fun a ea => ?_
  refine g_xvO ea (excS T 7 (by decide)) T.n_NoPrinter_maker rfl ?_
  walk_at "go"
  refine g_new fun t2 h => ?_
  have x2 := Ex.new (o := .tup [y, z]) h
  have u2 := @upd_same K1 t2 (.tup [y, z])
  have c2 := c1.trans x2
  clear h
  revert x2 u2 c2
  generalize upd K1 t2 (.tup [y, z]) = K2
  intro x2 u2 c2
  walk_at "go"
  refine g_new fun L4 h => ?_
  have x3 := Ex.new (o := .lst [.ref t0, .ref t1, .ref t2]) h
  have u3 := @upd_same K2 L4 (.lst [.ref t0, .ref t1, .ref t2])
  have c3 := c2.trans x3
  clear h
  revert x3 u3 c3
  generalize upd K2 L4 (.lst [.ref t0, .ref t1, .ref t2]) = K3
  intro x3 u3 c3
  walk_at "go"
  refine g_xv ?_
  walk_at "go"
  refine g_atS (m.ex c3) 8 (by decide) fun a ea => ?_
  refine g_xvO ea (excS T 8 (by decide)) T.n_NoTurner_word rfl ?_
  walk_at "go"
  refine g_xv ?_
  walk_at "go"
  refine g_atS (m.ex c3) 8 (by decide) fun a ea => ?_
  refine g_xvO ea (excS T 8 (by decide)) T.n_NoTurner_maker rfl ?_
  walk_at "go"
  refine g_new fun t3 h => ?_
  have x4 := Ex.new (o := .tup [y, z]) h
  have u4 := @upd_same K3 t3 (.tup [y, z])
  have c4 := c3.trans x4
  clear h
  revert x4 u4 c4
  generalize upd K3 t3 (.tup [y, z]) = K4
  intro x4 u4 c4
  walk_at "go"
  refine g_new fun L5 h => ?_
  have x5 := Ex.new (o := .lst [.ref t3]) h
  have u5 := @upd_same K4 L5 (.lst [.ref t3])
  have c5 := c4.trans x5
  clear h
  revert x5 u5 c5
  generalize upd K4 L5 (.lst [.ref t3]) = K5
  intro x5 u5 c5
  walk_at "go"
  refine g_catL ((x4.trans x5) _ _ u3) u5 (by simp) fun L6 h => ?_
  have x6 := Ex.new (o := .lst ([.ref t0, .ref t1, .ref t2] ++ [.ref t3])) h
  have u6 : upd K5 L6 (.lst ([.ref t0, .ref t1, .ref t2] ++ [.ref t3])) L6 = some (.lst [.ref t0, .ref t1, .ref t2, .ref t3]) := upd_same
  have c6 := c5.trans x6
  clear h
  revert x6 u6 c6
  generalize upd K5 L6 (.lst ([.ref t0, .ref t1, .ref t2] ++ [.ref t3])) = K6
  intro x6 u6 c6
  walk_at "go"
  refine g_new fun t4 h => ?_
  have x7 := Ex.new (o := .tup [y, z]) h
  have u7 := @upd_same K6 t4 (.tup [y, z])
  have c7 := c6.trans x7
  clear h
  revert x7 u7 c7
  generalize upd K6 t4 (.tup [y, z]) = K7
  intro x7 u7 c7
  walk_at "go"
  refine g_new fun L7 h => ?_
  have x8 := Ex.new (o := .lst [.ref t4]) h
  have u8 := @upd_same K7 L7 (.lst [.ref t4])
  have c8 := c7.trans x8
  clear h
  revert x8 u8 c8
  generalize upd K7 L7 (.lst [.ref t4]) = K8
  intro x8 u8 c8
  walk_at "go"
  refine g_repN (n := 4) u8 (by decide) fun L8 h => ?_
  have x9 := Ex.new (o := .lst (List.replicate 4 (.ref t4))) h
  have u9 := @upd_same K8 L8 (.lst (List.replicate 4 (.ref t4)))
  have c9 := c8.trans x9
  clear h
  revert x9 u9 c9
  generalize upd K8 L8 (.lst (List.replicate 4 (.ref t4))) = K9
  intro x9 u9 c9
  walk_at "go"
  have pr : ∀ {t : Addr}, K9 t = some (.tup [y, z]) → Rep K9 (.tup [d, e]) (.ref t) := fun h => ⟨_, _, rfl, h, _, _, rfl, rd.ex c9, _, _, rfl, re.ex c9, rfl⟩
  have x69 := x7.trans (x8.trans x9)
  have p0 := pr ((x1.trans (x2.trans (x3.trans (x4.trans (x5.trans (x6.trans x69)))))) _ _ u0)
  have p1 := pr ((x2.trans (x3.trans (x4.trans (x5.trans (x6.trans x69))))) _ _ u1)
  have p2 := pr ((x3.trans (x4.trans (x5.trans (x6.trans x69)))) _ _ u2)
  have p3 := pr ((x5.trans (x6.trans x69)) _ _ u4)
  have p4 := pr ((x8.trans x9) _ _ u7)
  have tp := thg_pair td te
  refine g_eqSame (d := .lst (List.replicate 4 (.tup [d, e]))) ⟨_, _, rfl, x69 _ _ u6, _, _, rfl, p0, _, _, rfl, p1, _, _, rfl, p2, _, _, rfl, p3, rfl⟩ ⟨_, _, rfl, u9, rep_all p4 4⟩ (sigs_all tp.1 4) ?_ ?_
  · have := deps_all tp.2 4
    show D.deps (List.replicate 4 (.tup [d, e])) + 1 ≤ 64
    omega
  walk_at "go"
  exact q _ c9
theorem vi_law_made_0 : Vis (defScope s_law_made) "_law_k" := by first | exact Or.inl (by decide +kernel) | exact Or.inr (Or.inl (by decide +kernel)) | exact Or.inr (Or.inr (by decide +kernel))
theorem vi_law_made_1 : Vis (defScope s_law_made) "_law_one" := by first | exact Or.inl (by decide +kernel) | exact Or.inr (Or.inl (by decide +kernel)) | exact Or.inr (Or.inr (by decide +kernel))
theorem vi_law_made_2 : Vis (defScope s_law_made) "_law_other" := by first | exact Or.inl (by decide +kernel) | exact Or.inr (Or.inl (by decide +kernel)) | exact Or.inr (Or.inr (by decide +kernel))
theorem vi_law_made_3 : Vis (defScope s_law_made) "_law_some" := by first | exact Or.inl (by decide +kernel) | exact Or.inr (Or.inl (by decide +kernel)) | exact Or.inr (Or.inr (by decide +kernel))
theorem lo_law_made_3 : Loc (defScope s_law_made) "_law_some" := by first | exact Or.inl (by decide +kernel) | exact Or.inr (by decide +kernel)
theorem ok_law_made (T : Txt K mg) : FnOk P w K mg base (L2.CX P w) 3 T.a_law_made T.d_law_made ["_law_k", "_law_one", "_law_other"] (spMadeS (clT T)) := by
  refine T.F_law_made.okX sc_law_made (fun vs H Q E h => ?_) (fun cdv A outer s H vs Q E hr h => ?_)
  · obtain ⟨_, _, _, rfl, _⟩ := h
    rfl
  obtain ⟨k, y, z, rfl, hk, q⟩ := h
  refine ⟨_, (pss_cons (ps_if (pt_cmpR uo_lt (uv 0 (hv := vi_law_made_0)) pe_int (nomark _)) (pss_cons (ps_set (i := 3) sc_law_made.nd rfl lo_law_made_3 (pe_lst (pa_cons (pe_mkS PySem.F.excBase_ValueError T.os_NoText T.i_NoText T.t_NoText (ok_init_NoText T) (hr.mono (by decide)) (kb_NoText_pos T) passL rfl T.m_NoText (pa_cons (uv 1 (hv := vi_law_made_1)) pa_nil) (by decide)) (pa_cons (pe_mkS PySem.F.excBase_ValueError T.os_NoWood T.i_NoWood T.t_NoWood (ok_init_NoWood T) (hr.mono (by decide)) (kb_NoWood_pos T) passL rfl T.m_NoWood (pa_cons (uv 1 (hv := vi_law_made_1)) (pa_cons (uv 2 (hv := vi_law_made_2)) pa_nil)) (by decide)) (pa_cons (pe_mkS PySem.F.excBase_ValueError T.os_NoTree T.i_NoTree T.t_NoTree (ok_init_NoTree T) (hr.mono (by decide)) (kb_NoTree_pos T) passL rfl T.m_NoTree (pa_cons (uv 1 (hv := vi_law_made_1)) pa_nil) (by decide)) (pa_cons (pe_mkS PySem.F.excBase_ValueError T.os_NoWord T.i_NoWord T.t_NoWord (ok_init_NoWord T) (hr.mono (by decide)) (kb_NoWord_pos T) passL rfl T.m_NoWord (pa_cons (uv 1 (hv := vi_law_made_1)) pa_nil) (by decide)) (pa_cons (pe_mkS PySem.F.excBase_ValueError T.os_TooLong T.i_TooLong T.t_TooLong (ok_init_TooLong T) (hr.mono (by decide)) (kb_TooLong_pos T) passL rfl T.m_TooLong (pa_cons (uv 1 (hv := vi_law_made_1)) pa_nil) (by decide)) (pa_cons (pe_mkS PySem.F.excBase_ValueError T.os_NoReader T.i_NoReader T.t_NoReader (ok_init_NoReader T) (hr.mono (by decide)) (kb_NoReader_pos T) passL rfl T.m_NoReader (pa_cons (uv 1 (hv := vi_law_made_1)) (pa_cons (uv 2 (hv := vi_law_made_2)) pa_nil)) (by decide)) pa_nil))))))))
      (pss_one (ps_ret (pe_ix ux_seq (pe_op uo_add (uv 3 (hv := vi_law_made_3)) (pe_lst (pa_cons (pe_mkS PySem.F.excBase_ValueError T.os_NoFit T.i_NoFit T.t_NoFit (ok_init_NoFit T) (hr.mono (by decide)) (kb_NoFit_pos T) passL rfl T.m_NoFit (pa_cons (uv 1 (hv := vi_law_made_1)) pa_nil) (by decide)) pa_nil))) (uv 0 (hv := vi_law_made_0)) (fun _ _ => rfl))))) pss_nil)
      (pss_cons (ps_set (i := 3) sc_law_made.nd rfl lo_law_made_3 (pe_lst (pa_cons (pe_mkS PySem.F.excBase_ValueError T.os_NoPrinter T.i_NoPrinter T.t_NoPrinter (ok_init_NoPrinter T) (hr.mono (by decide)) (kb_NoPrinter_pos T) passL rfl T.m_NoPrinter (pa_cons (uv 1 (hv := vi_law_made_1)) (pa_cons (uv 2 (hv := vi_law_made_2)) pa_nil)) (by decide)) (pa_cons (pe_mkS PySem.F.excBase_ValueError T.os_NoTurner T.i_NoTurner T.t_NoTurner (ok_init_NoTurner T) (hr.mono (by decide)) (kb_NoTurner_pos T) passL rfl T.m_NoTurner (pa_cons (uv 1 (hv := vi_law_made_1)) (pa_cons (uv 2 (hv := vi_law_made_2)) pa_nil)) (by decide)) (pa_cons (pe_mkS PySem.F.excBase_ValueError T.os_TooWide T.i_TooWide T.t_TooWide (ok_init_TooWide T) (hr.mono (by decide)) (kb_TooWide_pos T) passL rfl T.m_TooWide (pa_cons (uv 1 (hv := vi_law_made_1)) pa_nil) (by decide)) (pa_cons (pe_mkS0 PySem.F.excBase_ValueError T.os_NoRow T.i_NoRow T.t_NoRow (ok_init_NoRow T) (hr.mono (by decide)) (kb_NoRow_pos T) passL rfl T.m_NoRow) (pa_cons (pe_mkS0 PySem.F.excBase_ZeroDivisionError T.os_Nought T.i_Nought T.t_Nought (ok_init_Nought T) (hr.mono (by decide)) (kb_Nought_pos T) passL rfl T.m_Nought) (pa_cons (pe_mkS PySem.F.excBase_LookupError T.os_NotKept T.i_NotKept T.t_NotKept (ok_init_NotKept T) (hr.mono (by decide)) (kb_NotKept_pos T) passL rfl T.m_NotKept (pa_cons (uv 1 (hv := vi_law_made_1)) pa_nil) (by decide)) (pa_cons (pe_mkS PySem.F.excBase_IndexError T.os_NoBox T.i_NoBox T.t_NoBox (ok_init_NoBox T) (hr.mono (by decide)) (kb_NoBox_pos T) passL rfl T.m_NoBox (pa_cons (uv 1 (hv := vi_law_made_1)) pa_nil) (by decide)) pa_nil)))))))))
      (pss_one (ps_ret (pe_ix ux_seq (uv 3 (hv := vi_law_made_3)) (pe_op uo_sub (uv 0 (hv := vi_law_made_0)) pe_int) (fun _ _ => rfl)))))), ?_⟩
  walk_at "go"
  refine i_d (fun hk7 => ?_) (fun hk7 => ?_)
  · walk_at "go"
    refine g_mkS ?_
    walk_at "go"
    refine ⟨rfl, rfl, end_S1 T.os_NoText T.n_NoText_row fun a0 H0 e0 h0 => ?_⟩
    walk_at "go"
    refine g_mkS ?_
    walk_at "go"
    refine ⟨rfl, rfl, end_S2 T.os_NoWood T.n_NoWood_word T.n_NoWood_name fun a1 H1 e1 h1 => ?_⟩
    walk_at "go"
    refine g_mkS ?_
    walk_at "go"
    refine ⟨rfl, rfl, end_S1 T.os_NoTree T.n_NoTree_at fun a2 H2 e2 h2 => ?_⟩
    walk_at "go"
    refine g_mkS ?_
    walk_at "go"
    refine ⟨rfl, rfl, end_S1 T.os_NoWord T.n_NoWord_at fun a3 H3 e3 h3 => ?_⟩
    walk_at "go"
    refine g_mkS ?_
    walk_at "go"
    refine ⟨rfl, rfl, end_S1 T.os_TooLong T.n_TooLong_most fun a4 H4 e4 h4 => ?_⟩
    walk_at "go"
    refine g_mkS ?_
    walk_at "go"
    refine ⟨rfl, rfl, end_S2 T.os_NoReader T.n_NoReader_word T.n_NoReader_maker fun a5 H5 e5 h5 => ?_⟩
    walk_at "go"
    refine g_new fun L hL => ?_
    have eL := Ex.new (o := .lst [.ref a0, .ref a1, .ref a2, .ref a3, .ref a4, .ref a5]) hL
    have gL : upd H5 L (.lst [.ref a0, .ref a1, .ref a2, .ref a3, .ref a4, .ref a5]) L = some (.lst [.ref a0, .ref a1, .ref a2, .ref a3, .ref a4, .ref a5]) := upd_same
    clear hL
    revert eL gL
    generalize upd H5 L (.lst [.ref a0, .ref a1, .ref a2, .ref a3, .ref a4, .ref a5]) = HL
    intro eL gL
    walk_at "go"
    refine g_mkS ?_
    walk_at "go"
    refine ⟨rfl, rfl, end_S1 T.os_NoFit T.n_NoFit_at fun a6 H6 e6 h6 => ?_⟩
    walk_at "go"
    refine g_new fun M hM => ?_
    have eM := Ex.new (o := .lst [.ref a6]) hM
    have gM : upd H6 M (.lst [.ref a6]) M = some (.lst [.ref a6]) := upd_same
    clear hM
    revert eM gM
    generalize upd H6 M (.lst [.ref a6]) = HM
    intro eM gM
    walk_at "go"
    refine g_catL ((e6.trans (eM)) _ _ gL) gM (by simp) fun N hN => ?_
    have eN := Ex.new (o := .lst ([.ref a0, .ref a1, .ref a2, .ref a3, .ref a4, .ref a5] ++ [.ref a6])) hN
    have gN : upd HM N (.lst ([.ref a0, .ref a1, .ref a2, .ref a3, .ref a4, .ref a5] ++ [.ref a6])) N = some (.lst [.ref a0, .ref a1, .ref a2, .ref a3, .ref a4, .ref a5, .ref a6]) := upd_same
    clear hN
    revert eN gN
    generalize upd HM N (.lst ([.ref a0, .ref a1, .ref a2, .ref a3, .ref a4, .ref a5] ++ [.ref a6])) = HN
    intro eN gN
    walk_at "go"
    have eA := (e0.trans (e1.trans (e2.trans (e3.trans (e4.trans (e5.trans (eL.trans (e6.trans (eM.trans (eN))))))))))
    replace h0 := h0.ex (e1.trans (e2.trans (e3.trans (e4.trans (e5.trans (eL.trans (e6.trans (eM.trans (eN)))))))))
    replace h1 := h1.ex (e2.trans (e3.trans (e4.trans (e5.trans (eL.trans (e6.trans (eM.trans (eN))))))))
    replace h2 := h2.ex (e3.trans (e4.trans (e5.trans (eL.trans (e6.trans (eM.trans (eN)))))))
    replace h3 := h3.ex (e4.trans (e5.trans (eL.trans (e6.trans (eM.trans (eN))))))
    replace h4 := h4.ex (e5.trans (eL.trans (e6.trans (eM.trans (eN)))))
    replace h5 := h5.ex (eL.trans (e6.trans (eM.trans (eN))))
    replace h6 := h6.ex (eM.trans (eN))
    have hw : ∃ a, ([.ref a0, .ref a1, .ref a2, .ref a3, .ref a4, .ref a5, .ref a6] : List V)[k - 0]? = some (.ref a) ∧ EAt HN (clT T k) (fldS k y z) a := by
      obtain rfl | rfl | rfl | rfl | rfl | rfl | rfl : k = 0 ∨ k = 1 ∨ k = 2 ∨ k = 3 ∨ k = 4 ∨ k = 5 ∨ k = 6 := by omega
      · exact ⟨_, rfl, h0⟩
      · exact ⟨_, rfl, h1⟩
      · exact ⟨_, rfl, h2⟩
      · exact ⟨_, rfl, h3⟩
      · exact ⟨_, rfl, h4⟩
      · exact ⟨_, rfl, h5⟩
      · exact ⟨_, rfl, h6⟩
    obtain ⟨a, ha, ea⟩ := hw
    refine g_ixL gN (v := .ref a) (atI_nat ha) ?_
    walk_at "go"
    exact q a _ eA ea
  walk_at "go"
  refine g_mkS ?_
  walk_at "go"
  refine ⟨rfl, rfl, end_S2 T.os_NoPrinter T.n_NoPrinter_word T.n_NoPrinter_maker fun a7 H7 e7 h7 => ?_⟩
  walk_at "go"
  refine g_mkS ?_
  walk_at "go"
  refine ⟨rfl, rfl, end_S2 T.os_NoTurner T.n_NoTurner_word T.n_NoTurner_maker fun a8 H8 e8 h8 => ?_⟩
  walk_at "go"
  refine g_mkS ?_
  walk_at "go"
  refine ⟨rfl, rfl, end_S1 T.os_TooWide T.n_TooWide_rooms fun a9 H9 e9 h9 => ?_⟩
  walk_at "go"
  refine g_mkS ?_
  walk_at "go"
  refine ⟨rfl, rfl, end_S0 T.os_NoRow fun a10 H10 e10 h10 => ?_⟩
  walk_at "go"
  refine g_mkS ?_
  walk_at "go"
  refine ⟨rfl, rfl, end_S0 T.os_Nought fun a11 H11 e11 h11 => ?_⟩
  walk_at "go"
  refine g_mkS ?_
  walk_at "go"
  refine ⟨rfl, rfl, end_S1 T.os_NotKept T.n_NotKept_name fun a12 H12 e12 h12 => ?_⟩
  walk_at "go"
  refine g_mkS ?_
  walk_at "go"
  refine ⟨rfl, rfl, end_S1 T.os_NoBox T.n_NoBox_box fun a13 H13 e13 h13 => ?_⟩
  walk_at "go"
  refine g_new fun L hL => ?_
  have eL := Ex.new (o := .lst [.ref a7, .ref a8, .ref a9, .ref a10, .ref a11, .ref a12, .ref a13]) hL
  have gL : upd H13 L (.lst [.ref a7, .ref a8, .ref a9, .ref a10, .ref a11, .ref a12, .ref a13]) L = some (.lst [.ref a7, .ref a8, .ref a9, .ref a10, .ref a11, .ref a12, .ref a13]) := upd_same
  clear hL
  revert eL gL
  generalize upd H13 L (.lst [.ref a7, .ref a8, .ref a9, .ref a10, .ref a11, .ref a12, .ref a13]) = HL
  intro eL gL
  walk_at "go"
  have eA := (e7.trans (e8.trans (e9.trans (e10.trans (e11.trans (e12.trans (e13.trans (eL))))))))
  replace h7 := h7.ex (e8.trans (e9.trans (e10.trans (e11.trans (e12.trans (e13.trans (eL)))))))
  replace h8 := h8.ex (e9.trans (e10.trans (e11.trans (e12.trans (e13.trans (eL))))))
  replace h9 := h9.ex (e10.trans (e11.trans (e12.trans (e13.trans (eL)))))
  replace h10 := h10.ex (e11.trans (e12.trans (e13.trans (eL))))
  replace h11 := h11.ex (e12.trans (e13.trans (eL)))
  replace h12 := h12.ex (e13.trans (eL))
  replace h13 := h13.ex eL
  have hw : ∃ a, ([.ref a7, .ref a8, .ref a9, .ref a10, .ref a11, .ref a12, .ref a13] : List V)[k - 7]? = some (.ref a) ∧ EAt HL (clT T k) (fldS k y z) a := by
    obtain rfl | rfl | rfl | rfl | rfl | rfl | rfl : k = 7 ∨ k = 8 ∨ k = 9 ∨ k = 10 ∨ k = 11 ∨ k = 12 ∨ k = 13 := by omega
    · exact ⟨_, rfl, h7⟩
    · exact ⟨_, rfl, h8⟩
    · exact ⟨_, rfl, h9⟩
    · exact ⟨_, rfl, h10⟩
    · exact ⟨_, rfl, h11⟩
    · exact ⟨_, rfl, h12⟩
    · exact ⟨_, rfl, h13⟩
  obtain ⟨a, ha, ea⟩ := hw
  rw [show ((k : Int) - 7) = ((k - 7 : Nat) : Int) by omega]
  refine g_ixL gL (v := .ref a) (atI_nat ha) ?_
  walk_at "go"
  exact q a _ eA ea
theorem vi_law_named_0 : Vis (defScope s_law_named) "_law_k" := by first | exact Or.inl (by decide +kernel) | exact Or.inr (Or.inl (by decide +kernel)) | exact Or.inr (Or.inr (by decide +kernel))
theorem vi_law_named_1 : Vis (defScope s_law_named) "_law_one" := by first | exact Or.inl (by decide +kernel) | exact Or.inr (Or.inl (by decide +kernel)) | exact Or.inr (Or.inr (by decide +kernel))
theorem vi_law_named_2 : Vis (defScope s_law_named) "_law_other" := by first | exact Or.inl (by decide +kernel) | exact Or.inr (Or.inl (by decide +kernel)) | exact Or.inr (Or.inr (by decide +kernel))
theorem vi_law_named_3 : Vis (defScope s_law_named) "_law_some" := by first | exact Or.inl (by decide +kernel) | exact Or.inr (Or.inl (by decide +kernel)) | exact Or.inr (Or.inr (by decide +kernel))
theorem lo_law_named_3 : Loc (defScope s_law_named) "_law_some" := by first | exact Or.inl (by decide +kernel) | exact Or.inr (by decide +kernel)
theorem ok_law_named (T : Txt K mg) : FnOk P w K mg base (L2.CX P w) 3 T.a_law_named T.d_law_named ["_law_k", "_law_one", "_law_other"] (spMadeS (clT T)) := by
  refine T.F_law_named.okX sc_law_named (fun vs H Q E h => ?_) (fun cdv A outer s H vs Q E hr h => ?_)
  · obtain ⟨_, _, _, rfl, _⟩ := h
    rfl
  obtain ⟨k, y, z, rfl, hk, q⟩ := h
  refine ⟨_, (pss_cons (ps_if (pt_cmpR uo_lt (uv 0 (hv := vi_law_named_0)) pe_int (nomark _)) (pss_cons (ps_set (i := 3) sc_law_named.nd rfl lo_law_named_3 (pe_lst (pa_cons (pe_mkSK PySem.F.excBase_ValueError T.os_NoText T.i_NoText T.t_NoText (ok_init_NoText T) (hr.mono (by decide)) (kb_NoText_row T) passL rfl T.m_NoText (pk_cons (uv 1 (hv := vi_law_named_1)) pk_nil)) (pa_cons (pe_mkSK PySem.F.excBase_ValueError T.os_NoWood T.i_NoWood T.t_NoWood (ok_init_NoWood T) (hr.mono (by decide)) (kb_NoWood_name_word T) passL rfl T.m_NoWood (pk_cons (uv 2 (hv := vi_law_named_2)) (pk_cons (uv 1 (hv := vi_law_named_1)) pk_nil))) (pa_cons (pe_mkSK PySem.F.excBase_ValueError T.os_NoTree T.i_NoTree T.t_NoTree (ok_init_NoTree T) (hr.mono (by decide)) (kb_NoTree_at T) passL rfl T.m_NoTree (pk_cons (uv 1 (hv := vi_law_named_1)) pk_nil)) (pa_cons (pe_mkSK PySem.F.excBase_ValueError T.os_NoWord T.i_NoWord T.t_NoWord (ok_init_NoWord T) (hr.mono (by decide)) (kb_NoWord_at T) passL rfl T.m_NoWord (pk_cons (uv 1 (hv := vi_law_named_1)) pk_nil)) (pa_cons (pe_mkSK PySem.F.excBase_ValueError T.os_TooLong T.i_TooLong T.t_TooLong (ok_init_TooLong T) (hr.mono (by decide)) (kb_TooLong_most T) passL rfl T.m_TooLong (pk_cons (uv 1 (hv := vi_law_named_1)) pk_nil)) pa_nil)))))))
      (pss_one (ps_ret (pe_ix ux_seq (pe_op uo_add (uv 3 (hv := vi_law_named_3)) (pe_lst (pa_cons (pe_mkSK PySem.F.excBase_ValueError T.os_NoReader T.i_NoReader T.t_NoReader (ok_init_NoReader T) (hr.mono (by decide)) (kb_NoReader_maker_word T) passL rfl T.m_NoReader (pk_cons (uv 2 (hv := vi_law_named_2)) (pk_cons (uv 1 (hv := vi_law_named_1)) pk_nil))) (pa_cons (pe_mkSK PySem.F.excBase_ValueError T.os_NoFit T.i_NoFit T.t_NoFit (ok_init_NoFit T) (hr.mono (by decide)) (kb_NoFit_at T) passL rfl T.m_NoFit (pk_cons (uv 1 (hv := vi_law_named_1)) pk_nil)) pa_nil)))) (uv 0 (hv := vi_law_named_0)) (fun _ _ => rfl))))) pss_nil)
      (pss_cons (ps_set (i := 3) sc_law_named.nd rfl lo_law_named_3 (pe_lst (pa_cons (pe_mkSK PySem.F.excBase_ValueError T.os_NoPrinter T.i_NoPrinter T.t_NoPrinter (ok_init_NoPrinter T) (hr.mono (by decide)) (kb_NoPrinter_maker_word T) passL rfl T.m_NoPrinter (pk_cons (uv 2 (hv := vi_law_named_2)) (pk_cons (uv 1 (hv := vi_law_named_1)) pk_nil))) (pa_cons (pe_mkSK PySem.F.excBase_ValueError T.os_NoTurner T.i_NoTurner T.t_NoTurner (ok_init_NoTurner T) (hr.mono (by decide)) (kb_NoTurner_word_maker T) passL rfl T.m_NoTurner (pk_cons (uv 1 (hv := vi_law_named_1)) (pk_cons (uv 2 (hv := vi_law_named_2)) pk_nil))) (pa_cons (pe_mkSK PySem.F.excBase_ValueError T.os_TooWide T.i_TooWide T.t_TooWide (ok_init_TooWide T) (hr.mono (by decide)) (kb_TooWide_rooms T) passL rfl T.m_TooWide (pk_cons (uv 1 (hv := vi_law_named_1)) pk_nil)) (pa_cons (pe_mkS0 PySem.F.excBase_ValueError T.os_NoRow T.i_NoRow T.t_NoRow (ok_init_NoRow T) (hr.mono (by decide)) (kb_NoRow_pos T) passL rfl T.m_NoRow) (pa_cons (pe_mkS0 PySem.F.excBase_ZeroDivisionError T.os_Nought T.i_Nought T.t_Nought (ok_init_Nought T) (hr.mono (by decide)) (kb_Nought_pos T) passL rfl T.m_Nought) pa_nil)))))))
      (pss_one (ps_ret (pe_ix ux_seq (pe_op uo_add (uv 3 (hv := vi_law_named_3)) (pe_lst (pa_cons (pe_mkSK PySem.F.excBase_LookupError T.os_NotKept T.i_NotKept T.t_NotKept (ok_init_NotKept T) (hr.mono (by decide)) (kb_NotKept_name T) passL rfl T.m_NotKept (pk_cons (uv 1 (hv := vi_law_named_1)) pk_nil)) (pa_cons (pe_mkSK PySem.F.excBase_IndexError T.os_NoBox T.i_NoBox T.t_NoBox (ok_init_NoBox T) (hr.mono (by decide)) (kb_NoBox_box T) passL rfl T.m_NoBox (pk_cons (uv 1 (hv := vi_law_named_1)) pk_nil)) pa_nil)))) (pe_op uo_sub (uv 0 (hv := vi_law_named_0)) pe_int) (fun _ _ => rfl)))))), ?_⟩
  walk_at "go"
  refine i_d (fun hk7 => ?_) (fun hk7 => ?_)
  · walk_at "go"
    refine g_mkS ?_
    walk_at "go"
    refine ⟨rfl, rfl, end_S1 T.os_NoText T.n_NoText_row fun a0 H0 e0 h0 => ?_⟩
    walk_at "go"
    refine g_mkS ?_
    walk_at "go"
    refine ⟨rfl, rfl, end_S2 T.os_NoWood T.n_NoWood_word T.n_NoWood_name fun a1 H1 e1 h1 => ?_⟩
    walk_at "go"
    refine g_mkS ?_
    walk_at "go"
    refine ⟨rfl, rfl, end_S1 T.os_NoTree T.n_NoTree_at fun a2 H2 e2 h2 => ?_⟩
    walk_at "go"
    refine g_mkS ?_
    walk_at "go"
    refine ⟨rfl, rfl, end_S1 T.os_NoWord T.n_NoWord_at fun a3 H3 e3 h3 => ?_⟩
    walk_at "go"
    refine g_mkS ?_
    walk_at "go"
    refine ⟨rfl, rfl, end_S1 T.os_TooLong T.n_TooLong_most fun a4 H4 e4 h4 => ?_⟩
    walk_at "go"
    refine g_new fun L hL => ?_
    have eL := Ex.new (o := .lst [.ref a0, .ref a1, .ref a2, .ref a3, .ref a4]) hL
    have gL : upd H4 L (.lst [.ref a0, .ref a1, .ref a2, .ref a3, .ref a4]) L = some (.lst [.ref a0, .ref a1, .ref a2, .ref a3, .ref a4]) := upd_same
    clear hL
    revert eL gL
    generalize upd H4 L (.lst [.ref a0, .ref a1, .ref a2, .ref a3, .ref a4]) = HL
    intro eL gL
    walk_at "go"
    refine g_mkS ?_
    walk_at "go"
    refine ⟨rfl, rfl, end_S2 T.os_NoReader T.n_NoReader_word T.n_NoReader_maker fun a5 H5 e5 h5 => ?_⟩
    walk_at "go"
    refine g_mkS ?_
    walk_at "go"
    refine ⟨rfl, rfl, end_S1 T.os_NoFit T.n_NoFit_at fun a6 H6 e6 h6 => ?_⟩
    walk_at "go"
    refine g_new fun M hM => ?_
    have eM := Ex.new (o := .lst [.ref a5, .ref a6]) hM
    have gM : upd H6 M (.lst [.ref a5, .ref a6]) M = some (.lst [.ref a5, .ref a6]) := upd_same
    clear hM
    revert eM gM
    generalize upd H6 M (.lst [.ref a5, .ref a6]) = HM
    intro eM gM
    walk_at "go"
    refine g_catL ((e5.trans (e6.trans (eM))) _ _ gL) gM (by simp) fun N hN => ?_
    have eN := Ex.new (o := .lst ([.ref a0, .ref a1, .ref a2, .ref a3, .ref a4] ++ [.ref a5, .ref a6])) hN
    have gN : upd HM N (.lst ([.ref a0, .ref a1, .ref a2, .ref a3, .ref a4] ++ [.ref a5, .ref a6])) N = some (.lst [.ref a0, .ref a1, .ref a2, .ref a3, .ref a4, .ref a5, .ref a6]) := upd_same
    clear hN
    revert eN gN
    generalize upd HM N (.lst ([.ref a0, .ref a1, .ref a2, .ref a3, .ref a4] ++ [.ref a5, .ref a6])) = HN
    intro eN gN
    walk_at "go"
    have eA := (e0.trans (e1.trans (e2.trans (e3.trans (e4.trans (eL.trans (e5.trans (e6.trans (eM.trans (eN))))))))))
    replace h0 := h0.ex (e1.trans (e2.trans (e3.trans (e4.trans (eL.trans (e5.trans (e6.trans (eM.trans (eN)))))))))
    replace h1 := h1.ex (e2.trans (e3.trans (e4.trans (eL.trans (e5.trans (e6.trans (eM.trans (eN))))))))
    replace h2 := h2.ex (e3.trans (e4.trans (eL.trans (e5.trans (e6.trans (eM.trans (eN)))))))
    replace h3 := h3.ex (e4.trans (eL.trans (e5.trans (e6.trans (eM.trans (eN))))))
    replace h4 := h4.ex (eL.trans (e5.trans (e6.trans (eM.trans (eN)))))
    replace h5 := h5.ex (e6.trans (eM.trans (eN)))
    replace h6 := h6.ex (eM.trans (eN))
    have hw : ∃ a, ([.ref a0, .ref a1, .ref a2, .ref a3, .ref a4, .ref a5, .ref a6] : List V)[k - 0]? = some (.ref a) ∧ EAt HN (clT T k) (fldS k y z) a := by
      obtain rfl | rfl | rfl | rfl | rfl | rfl | rfl : k = 0 ∨ k = 1 ∨ k = 2 ∨ k = 3 ∨ k = 4 ∨ k = 5 ∨ k = 6 := by omega
      · exact ⟨_, rfl, h0⟩
      · exact ⟨_, rfl, h1⟩
      · exact ⟨_, rfl, h2⟩
      · exact ⟨_, rfl, h3⟩
      · exact ⟨_, rfl, h4⟩
      · exact ⟨_, rfl, h5⟩
      · exact ⟨_, rfl, h6⟩
    obtain ⟨a, ha, ea⟩ := hw
    refine g_ixL gN (v := .ref a) (atI_nat ha) ?_
    walk_at "go"
    exact q a _ eA ea
  walk_at "go"
  refine g_mkS ?_
  walk_at "go"
  refine ⟨rfl, rfl, end_S2 T.os_NoPrinter T.n_NoPrinter_word T.n_NoPrinter_maker fun a7 H7 e7 h7 => ?_⟩
  walk_at "go"
  refine g_mkS ?_
  walk_at "go"
  refine ⟨rfl, rfl, end_S2 T.os_NoTurner T.n_NoTurner_word T.n_NoTurner_maker fun a8 H8 e8 h8 => ?_⟩
  walk_at "go"
  refine g_mkS ?_
  walk_at "go"
  refine ⟨rfl, rfl, end_S1 T.os_TooWide T.n_TooWide_rooms fun a9 H9 e9 h9 => ?_⟩
  walk_at "go"
  refine g_mkS ?_
  walk_at "go"
  refine ⟨rfl, rfl, end_S0 T.os_NoRow fun a10 H10 e10 h10 => ?_⟩
  walk_at "go"
  refine g_mkS ?_
  walk_at "go"
  refine ⟨rfl, rfl, end_S0 T.os_Nought fun a11 H11 e11 h11 => ?_⟩
  walk_at "go"
  refine g_new fun L hL => ?_
  have eL := Ex.new (o := .lst [.ref a7, .ref a8, .ref a9, .ref a10, .ref a11]) hL
  have gL : upd H11 L (.lst [.ref a7, .ref a8, .ref a9, .ref a10, .ref a11]) L = some (.lst [.ref a7, .ref a8, .ref a9, .ref a10, .ref a11]) := upd_same
  clear hL
  revert eL gL
  generalize upd H11 L (.lst [.ref a7, .ref a8, .ref a9, .ref a10, .ref a11]) = HL
  intro eL gL
  walk_at "go"
  refine g_mkS ?_
  walk_at "go"
  refine ⟨rfl, rfl, end_S1 T.os_NotKept T.n_NotKept_name fun a12 H12 e12 h12 => ?_⟩
  walk_at "go"
  refine g_mkS ?_
  walk_at "go"
  refine ⟨rfl, rfl, end_S1 T.os_NoBox T.n_NoBox_box fun a13 H13 e13 h13 => ?_⟩
  walk_at "go"
  refine g_new fun M hM => ?_
  have eM := Ex.new (o := .lst [.ref a12, .ref a13]) hM
  have gM : upd H13 M (.lst [.ref a12, .ref a13]) M = some (.lst [.ref a12, .ref a13]) := upd_same
  clear hM
  revert eM gM
  generalize upd H13 M (.lst [.ref a12, .ref a13]) = HM
  intro eM gM
  walk_at "go"
  refine g_catL ((e12.trans (e13.trans (eM))) _ _ gL) gM (by simp) fun N hN => ?_
  have eN := Ex.new (o := .lst ([.ref a7, .ref a8, .ref a9, .ref a10, .ref a11] ++ [.ref a12, .ref a13])) hN
  have gN : upd HM N (.lst ([.ref a7, .ref a8, .ref a9, .ref a10, .ref a11] ++ [.ref a12, .ref a13])) N = some (.lst [.ref a7, .ref a8, .ref a9, .ref a10, .ref a11, .ref a12, .ref a13]) := upd_same
  clear hN
  revert eN gN
  generalize upd HM N (.lst ([.ref a7, .ref a8, .ref a9, .ref a10, .ref a11] ++ [.ref a12, .ref a13])) = HN
  intro eN gN
  walk_at "go"
  have eA := (e7.trans (e8.trans (e9.trans (e10.trans (e11.trans (eL.trans (e12.trans (e13.trans (eM.trans (eN))))))))))
  replace h7 := h7.ex (e8.trans (e9.trans (e10.trans (e11.trans (eL.trans (e12.trans (e13.trans (eM.trans (eN)))))))))
  replace h8 := h8.ex (e9.trans (e10.trans (e11.trans (eL.trans (e12.trans (e13.trans (eM.trans (eN))))))))
  replace h9 := h9.ex (e10.trans (e11.trans (eL.trans (e12.trans (e13.trans (eM.trans (eN)))))))
  replace h10 := h10.ex (e11.trans (eL.trans (e12.trans (e13.trans (eM.trans (eN))))))
  replace h11 := h11.ex (eL.trans (e12.trans (e13.trans (eM.trans (eN)))))
  replace h12 := h12.ex (e13.trans (eM.trans (eN)))
  replace h13 := h13.ex (eM.trans (eN))
  have hw : ∃ a, ([.ref a7, .ref a8, .ref a9, .ref a10, .ref a11, .ref a12, .ref a13] : List V)[k - 7]? = some (.ref a) ∧ EAt HN (clT T k) (fldS k y z) a := by
    obtain rfl | rfl | rfl | rfl | rfl | rfl | rfl : k = 7 ∨ k = 8 ∨ k = 9 ∨ k = 10 ∨ k = 11 ∨ k = 12 ∨ k = 13 := by omega
    · exact ⟨_, rfl, h7⟩
    · exact ⟨_, rfl, h8⟩
    · exact ⟨_, rfl, h9⟩
    · exact ⟨_, rfl, h10⟩
    · exact ⟨_, rfl, h11⟩
    · exact ⟨_, rfl, h12⟩
    · exact ⟨_, rfl, h13⟩
  obtain ⟨a, ha, ea⟩ := hw
  rw [show ((k : Int) - 7) = ((k - 7 : Nat) : Int) by omega]
  refine g_ixL gN (v := .ref a) (atI_nat ha) ?_
  walk_at "go"
  exact q a _ eA ea
theorem vi_law_taken_0 : Vis (defScope s_law_taken) "_law_one" := by first | exact Or.inl (by decide +kernel) | exact Or.inr (Or.inl (by decide +kernel)) | exact Or.inr (Or.inr (by decide +kernel))
theorem vi_law_taken_2 : Vis (defScope s_law_taken) "_law_found" := by first | exact Or.inl (by decide +kernel) | exact Or.inr (Or.inl (by decide +kernel)) | exact Or.inr (Or.inr (by decide +kernel))
theorem lo_law_taken_2 : Loc (defScope s_law_taken) "_law_found" := by first | exact Or.inl (by decide +kernel) | exact Or.inr (by decide +kernel)
theorem ok_law_taken (T : Txt K mg) : FnOk P w K mg base (L2.CX P w) 3 T.a_law_taken T.d_law_taken ["_law_one", "_law_other"] spTakenS := by
  refine T.F_law_taken.okX sc_law_taken (fun vs H Q E h => ?_) (fun cdv A outer s H vs Q E hr h => ?_)
  · obtain ⟨_, _, _, _, rfl, _⟩ := h
    rfl
  obtain ⟨y, z, d, e, rfl, td, te, rd, re, q⟩ := h
  refine ⟨_, (pss_cons (ps_set (i := 2) sc_law_taken.nd rfl lo_law_taken_2 (pe_lst pa_nil))
      (pss_cons (ps_try_as (i := 3) rfl rfl sc_law_taken.nd rfl rfl ⟨rfl, by decide, .inl T.m_BoughError⟩ (takes_of rfl rfl rfl rfl) (fun W pn xe tk po => (pss_one (ps_raise rfl tk (pmk_S PySem.F.excBase_ValueError T.os_NoText T.i_NoText T.t_NoText (ok_init_NoText T) (hr.mono (by decide)) T.bI_NoText passL rfl T.m_NoText (pa_cons (uv 0) pa_nil))))) (fun a oe cls d pn hz hf => (pss_one (ps_expr (show PE _ _ (tBM K "list" _ _ _) from (pe_bm PySem.F.plainAttrs_list PySem.F.slot_list_append PySem.F.type_list_append mt_append (uv 2 (hv := vi_law_taken_2)) (pa_cons (pe_cmpR (op_eqDK K hr.units) (pe_xf (xfC T.c_NoText) T.n_NoText_row hz hf (uv 3)) (uv 0 (hv := vi_law_taken_0)) (nomark _)) pa_nil)))))))
      (pss_cons (ps_try_only rfl rfl ⟨rfl, by decide, .inr ⟨T.z_KeyError, (show bootBuiltins "KeyError" = some (.type "KeyError") by decide +kernel), by decide⟩⟩ (takes_of rfl rfl rfl rfl) (fun W pn xe tk po => (pss_one (ps_raise rfl tk (pmk_S PySem.F.excBase_LookupError T.os_NotKept T.i_NotKept T.t_NotKept (ok_init_NotKept T) (hr.mono (by decide)) T.bI_NotKept passL rfl T.m_NotKept (pa_cons (uv 1) pa_nil))))) (fun a oe cls d pn hz hf => (pss_one (ps_expr (show PE _ _ (tBM K "list" _ _ _) from (pe_bm PySem.F.plainAttrs_list PySem.F.slot_list_append PySem.F.type_list_append mt_append (uv 2 (hv := vi_law_taken_2)) (pa_cons pe_bl pa_nil)))))))
      (pss_one (ps_ret (pe_cmpR (op_eqD hr.units) (uv 2 (hv := vi_law_taken_2)) (pe_lst (pa_cons pe_bl (pa_cons pe_bl pa_nil))) (nomark _))))))), ?_⟩
  walk_at "go"
  refine g_new fun L hL => ?_
  have e0 := Ex.new (o := .lst []) hL
  have g0 := @upd_same H L (.lst [])
  revert e0 g0
  generalize upd H L (.lst []) = H0
  intro e0 g0
  walk_at "go"
  refine g_mkO ?_
  walk_at "go"
  refine ⟨(show 1 ≤ 1000 by decide), fun a ha => ⟨a, _, y, rfl, T.os_NoText, T.n_NoText_row, upd_same, fun dx hdx ne => ⟨rfl, dx, [("row", y)], upd_same, by rw [upd_ne ne, upd_same], by rwa [upd_ne ne] at hdx, ?_⟩⟩⟩
  have e1 : Ex H0 (upd (del (upd (upd (upd H0 a (exo a T.a_NoText none)) dx (exd dx [("row", y)])) a (exo a T.a_NoText (some dx))) a) dx (.xd [("row", y)])) := raise_ex ha hdx ne
  have hx : (upd (del (upd (upd (upd H0 a (exo a T.a_NoText none)) dx (exd dx [("row", y)])) a (exo a T.a_NoText (some dx))) a) dx (.xd [("row", y)])) dx = some (.xd [("row", y)]) := upd_same
  revert e1 hx
  generalize upd (del (upd (upd (upd H0 a (exo a T.a_NoText none)) dx (exd dx [("row", y)])) a (exo a T.a_NoText (some dx))) a) dx (.xd [("row", y)]) = H1
  intro e1 hx
  refine ⟨true, PySem.W.exm_ref T.c_BoughError.hs T.c_BoughError.hd T.t0_BoughError T.sTB, fun _ a2 ha2 => ?_, fun q => nomatch q⟩
  have g1 := e1 _ _ g0
  walk_at "go"
  refine ⟨rfl, rfl, _, _, _, rfl, hx, rfl, ?_⟩
  walk_at "go"
  have r1 := rd.ex (e0.trans e1)
  refine g_eqSame r1 r1 td.sig (Nat.le_trans td.dep (by decide)) ?_
  walk_at "go"
  refine g_app (e1 _ _ g0) (by decide) ?_
  have e2 : Ex H (upd H1 L (.lst ([] ++ [.bl true]))) := (e0.trans e1).at_new hL
  have g2 : upd H1 L (.lst ([] ++ [.bl true])) L = some (.lst [.bl true]) := upd_same
  revert e2 g2
  generalize upd H1 L (.lst ([] ++ [.bl true])) = H2
  intro e2 g2
  walk_at "go"
  refine g_mkO ?_
  walk_at "go"
  refine ⟨(show 1 ≤ 1000 by decide), fun a ha => ⟨a, _, z, rfl, T.os_NotKept, T.n_NotKept_name, upd_same, fun dy hdx ne => ⟨rfl, dy, [("name", z)], upd_same, by rw [upd_ne ne, upd_same], by rwa [upd_ne ne] at hdx, ?_⟩⟩⟩
  have e3 : Ex H2 (upd (del (upd (upd (upd H2 a (exo a T.a_NotKept none)) dy (exd dy [("name", z)])) a (exo a T.a_NotKept (some dy))) a) dy (.xd [("name", z)])) := raise_ex ha hdx ne
  have hy : (upd (del (upd (upd (upd H2 a (exo a T.a_NotKept none)) dy (exd dy [("name", z)])) a (exo a T.a_NotKept (some dy))) a) dy (.xd [("name", z)])) dy = some (.xd [("name", z)]) := upd_same
  revert e3 hy
  generalize upd (del (upd (upd (upd H2 a (exo a T.a_NotKept none)) dy (exd dy [("name", z)])) a (exo a T.a_NotKept (some dy))) a) dy (.xd [("name", z)]) = H3
  intro e3 hy
  refine ⟨true, exm_ty2 T.sKB T.sTK, fun _ a3 ha3 => ?_, fun q => nomatch q⟩
  have g3 := e3 _ _ g2
  walk_at "go"
  refine g_app (e3 _ _ g2) (by decide) ?_
  have e4 : Ex H (upd H3 L (.lst ([.bl true] ++ [.bl true]))) := (e2.trans e3).at_new hL
  have g4 : upd H3 L (.lst ([.bl true] ++ [.bl true])) L = some (.lst ([true, true].map V.bl)) := upd_same
  clear hL
  revert e4 g4
  generalize upd H3 L (.lst ([.bl true] ++ [.bl true])) = H4
  intro e4 g4
  walk_at "go"
  refine g_new fun M hM => ?_
  have e5 := Ex.new (o := .lst [.bl true, .bl true]) hM
  walk_at "go"
  refine g_eqBs (ys := [true, true]) (e5 _ _ g4) upd_same ?_
  walk_at "go"
  exact q _ (e4.trans e5)
theorem vi_law_0 : Vis (defScope s_law) "_law_script" := by first | exact Or.inl (by decide +kernel) | exact Or.inr (Or.inl (by decide +kernel)) | exact Or.inr (Or.inr (by decide +kernel))
theorem vi_law_1 : Vis (defScope s_law) "_law_draw" := by first | exact Or.inl (by decide +kernel) | exact Or.inr (Or.inl (by decide +kernel)) | exact Or.inr (Or.inr (by decide +kernel))
theorem vi_law_2 : Vis (defScope s_law) "_law_things" := by first | exact Or.inl (by decide +kernel) | exact Or.inr (Or.inl (by decide +kernel)) | exact Or.inr (Or.inr (by decide +kernel))
theorem vi_law_3 : Vis (defScope s_law) "_law_made_here" := by first | exact Or.inl (by decide +kernel) | exact Or.inr (Or.inl (by decide +kernel)) | exact Or.inr (Or.inr (by decide +kernel))
theorem vi_law_4 : Vis (defScope s_law) "_law_one" := by first | exact Or.inl (by decide +kernel) | exact Or.inr (Or.inl (by decide +kernel)) | exact Or.inr (Or.inr (by decide +kernel))
theorem vi_law_5 : Vis (defScope s_law) "_law_other" := by first | exact Or.inl (by decide +kernel) | exact Or.inr (Or.inl (by decide +kernel)) | exact Or.inr (Or.inr (by decide +kernel))
theorem vi_law_6 : Vis (defScope s_law) "_law_some" := by first | exact Or.inl (by decide +kernel) | exact Or.inr (Or.inl (by decide +kernel)) | exact Or.inr (Or.inr (by decide +kernel))
theorem vi_law_7 : Vis (defScope s_law) "_law_k" := by first | exact Or.inl (by decide +kernel) | exact Or.inr (Or.inl (by decide +kernel)) | exact Or.inr (Or.inr (by decide +kernel))
theorem vi_law_8 : Vis (defScope s_law) "_law_e" := by first | exact Or.inl (by decide +kernel) | exact Or.inr (Or.inl (by decide +kernel)) | exact Or.inr (Or.inr (by decide +kernel))
theorem vi_law_9 : Vis (defScope s_law) "_law_low" := by first | exact Or.inl (by decide +kernel) | exact Or.inr (Or.inl (by decide +kernel)) | exact Or.inr (Or.inr (by decide +kernel))
theorem vi_law_10 : Vis (defScope s_law) "_law_sorts" := by first | exact Or.inl (by decide +kernel) | exact Or.inr (Or.inl (by decide +kernel)) | exact Or.inr (Or.inr (by decide +kernel))
theorem lo_law_1 : Loc (defScope s_law) "_law_draw" := by first | exact Or.inl (by decide +kernel) | exact Or.inr (by decide +kernel)
theorem lo_law_2 : Loc (defScope s_law) "_law_things" := by first | exact Or.inl (by decide +kernel) | exact Or.inr (by decide +kernel)
theorem lo_law_3 : Loc (defScope s_law) "_law_made_here" := by first | exact Or.inl (by decide +kernel) | exact Or.inr (by decide +kernel)
theorem lo_law_4 : Loc (defScope s_law) "_law_one" := by first | exact Or.inl (by decide +kernel) | exact Or.inr (by decide +kernel)
theorem lo_law_5 : Loc (defScope s_law) "_law_other" := by first | exact Or.inl (by decide +kernel) | exact Or.inr (by decide +kernel)
theorem lo_law_6 : Loc (defScope s_law) "_law_some" := by first | exact Or.inl (by decide +kernel) | exact Or.inr (by decide +kernel)
theorem lo_law_7 : Loc (defScope s_law) "_law_k" := by first | exact Or.inl (by decide +kernel) | exact Or.inr (by decide +kernel)
theorem lo_law_8 : Loc (defScope s_law) "_law_e" := by first | exact Or.inl (by decide +kernel) | exact Or.inr (by decide +kernel)
theorem lo_law_9 : Loc (defScope s_law) "_law_low" := by first | exact Or.inl (by decide +kernel) | exact Or.inr (by decide +kernel)
theorem lo_law_10 : Loc (defScope s_law) "_law_sorts" := by first | exact Or.inl (by decide +kernel) | exact Or.inr (by decide +kernel)
theorem kitB5 {K : PySem.W.Frag} {mg : Str → Option Value} (T : Txt K mg) : ∀ i : Nat, i < 14 → PySem.W.kitOne K (.ref (clT T i)) (.ref T.a_BoughError) = some (decide (i < 11))
  | 0, _ => kit_own T.sB_0 T.s0_NoText T.i0_BoughError T.t0_BoughError
  | 1, _ => kit_own T.sB_1 T.s0_NoWood T.i0_BoughError T.t0_BoughError
  | 2, _ => kit_own T.sB_2 T.s0_NoTree T.i0_BoughError T.t0_BoughError
  | 3, _ => kit_own T.sB_3 T.s0_NoWord T.i0_BoughError T.t0_BoughError
  | 4, _ => kit_own T.sB_4 T.s0_TooLong T.i0_BoughError T.t0_BoughError
  | 5, _ => kit_own T.sB_5 T.s0_NoReader T.i0_BoughError T.t0_BoughError
  | 6, _ => kit_own T.sB_6 T.s0_NoFit T.i0_BoughError T.t0_BoughError
  | 7, _ => kit_own T.sB_7 T.s0_NoPrinter T.i0_BoughError T.t0_BoughError
  | 8, _ => kit_own T.sB_8 T.s0_NoTurner T.i0_BoughError T.t0_BoughError
  | 9, _ => kit_own T.sB_9 T.s0_TooWide T.i0_BoughError T.t0_BoughError
  | 10, _ => kit_own T.sB_10 T.s0_NoRow T.i0_BoughError T.t0_BoughError
  | 11, _ => kit_own T.sB_11 T.s0_Nought T.i0_BoughError T.t0_BoughError
  | 12, _ => kit_own T.sB_12 T.s0_NotKept T.i0_BoughError T.t0_BoughError
  | 13, _ => kit_own T.sB_13 T.s0_NoBox T.i0_BoughError T.t0_BoughError
  | i + 14, h => absurd h (by omega)
theorem kitV5 {K : PySem.W.Frag} {mg : Str → Option Value} (T : Txt K mg) : ∀ i : Nat, i < 14 → PySem.W.kitOne K (.ref (clT T i)) (.type "ValueError") = some (decide (i < 11))
  | 0, _ => kit_sub T.sV_0
  | 1, _ => kit_sub T.sV_1
  | 2, _ => kit_sub T.sV_2
  | 3, _ => kit_sub T.sV_3
  | 4, _ => kit_sub T.sV_4
  | 5, _ => kit_sub T.sV_5
  | 6, _ => kit_sub T.sV_6
  | 7, _ => kit_sub T.sV_7
  | 8, _ => kit_sub T.sV_8
  | 9, _ => kit_sub T.sV_9
  | 10, _ => kit_sub T.sV_10
  | 11, _ => kit_sub T.sV_11
  | 12, _ => kit_sub T.sV_12
  | 13, _ => kit_sub T.sV_13
  | i + 14, h => absurd h (by omega)
theorem kitZ5 {K : PySem.W.Frag} {mg : Str → Option Value} (T : Txt K mg) : ∀ i : Nat, i < 14 → PySem.W.kitOne K (.ref (clT T i)) (.type "ZeroDivisionError") = some (decide (i = 11))
  | 0, _ => kit_sub T.sZ_0
  | 1, _ => kit_sub T.sZ_1
  | 2, _ => kit_sub T.sZ_2
  | 3, _ => kit_sub T.sZ_3
  | 4, _ => kit_sub T.sZ_4
  | 5, _ => kit_sub T.sZ_5
  | 6, _ => kit_sub T.sZ_6
  | 7, _ => kit_sub T.sZ_7
  | 8, _ => kit_sub T.sZ_8
  | 9, _ => kit_sub T.sZ_9
  | 10, _ => kit_sub T.sZ_10
  | 11, _ => kit_sub T.sZ_11
  | 12, _ => kit_sub T.sZ_12
  | 13, _ => kit_sub T.sZ_13
  | i + 14, h => absurd h (by omega)
theorem kitK5 {K : PySem.W.Frag} {mg : Str → Option Value} (T : Txt K mg) : ∀ i : Nat, i < 14 → PySem.W.kitOne K (.ref (clT T i)) (.type "KeyError") = some (decide (i = 12))
  | 0, _ => kit_sub T.sK_0
  | 1, _ => kit_sub T.sK_1
  | 2, _ => kit_sub T.sK_2
  | 3, _ => kit_sub T.sK_3
  | 4, _ => kit_sub T.sK_4
  | 5, _ => kit_sub T.sK_5
  | 6, _ => kit_sub T.sK_6
  | 7, _ => kit_sub T.sK_7
  | 8, _ => kit_sub T.sK_8
  | 9, _ => kit_sub T.sK_9
  | 10, _ => kit_sub T.sK_10
  | 11, _ => kit_sub T.sK_11
  | 12, _ => kit_sub T.sK_12
  | 13, _ => kit_sub T.sK_13
  | i + 14, h => absurd h (by omega)
theorem kitI5 {K : PySem.W.Frag} {mg : Str → Option Value} (T : Txt K mg) : ∀ i : Nat, i < 14 → PySem.W.kitOne K (.ref (clT T i)) (.type "IndexError") = some (decide (i = 13))
  | 0, _ => kit_sub T.sI_0
  | 1, _ => kit_sub T.sI_1
  | 2, _ => kit_sub T.sI_2
  | 3, _ => kit_sub T.sI_3
  | 4, _ => kit_sub T.sI_4
  | 5, _ => kit_sub T.sI_5
  | 6, _ => kit_sub T.sI_6
  | 7, _ => kit_sub T.sI_7
  | 8, _ => kit_sub T.sI_8
  | 9, _ => kit_sub T.sI_9
  | 10, _ => kit_sub T.sI_10
  | 11, _ => kit_sub T.sI_11
  | 12, _ => kit_sub T.sI_12
  | 13, _ => kit_sub T.sI_13
  | i + 14, h => absurd h (by omega)
theorem ok_law (T : Txt K mg) : FnOk P w K mg base (L2.CX P w) 4 T.a_law T.d_law ["_law_script"] (spLaw K) := by
  refine T.F_law.okX sc_law (fun vs H Q E h => ?_) (fun cdv A outer s H vs Q E hr h => ?_)
  · obtain ⟨_, _, rfl, _⟩ := h
    rfl
  obtain ⟨scr, ns, rfl, hS, hl, q⟩ := h
  refine ⟨_, (pss_cons (ps_set (i := 1) sc_law.nd rfl lo_law_1 (pe_callD (ok_law_box T) (hr.mono (by decide)) rfl T.m_law_box T.F_law_box.kp T.b_law_box .nil (fun σ => passAt (takes_of rfl rfl rfl rfl) σ) (pa_cons (uv 0 (hv := vi_law_0)) (pa_cons pe_int pa_nil))))
      (pss_cons (ps_set (i := 2) sc_law.nd rfl lo_law_2 (pe_lst (pa_cons (pe_callD (ok_law_take T) (hr.mono (by decide)) rfl T.m_law_take T.F_law_take.kp T.b_law_take .nil (fun σ => passAt (takes_of rfl rfl rfl rfl) σ) (pa_cons (uv 1 (hv := vi_law_1)) (pa_cons pe_int pa_nil))) (pa_cons (pe_op uo_sub (pe_op uo_sub pe_int pe_int) (pe_callD (ok_law_take T) (hr.mono (by decide)) rfl T.m_law_take T.F_law_take.kp T.b_law_take .nil (fun σ => passAt (takes_of rfl rfl rfl rfl) σ) (pa_cons (uv 1 (hv := vi_law_1)) (pa_cons (pe_op uo_pow pe_int pe_int) pa_nil)))) (pa_cons (pe_op op_repS pe_str (pe_callD (ok_law_take T) (hr.mono (by decide)) rfl T.m_law_take T.F_law_take.kp T.b_law_take .nil (fun σ => passAt (takes_of rfl rfl rfl rfl) σ) (pa_cons (uv 1 (hv := vi_law_1)) (pa_cons pe_int pa_nil)))) (pa_cons pe_non (pa_cons (pe_tup pa_nil) (pa_cons pe_bl pa_nil))))))))
      (pss_cons (ps_expr (pe_bm PySem.F.plainAttrs_list PySem.F.slot_list_append PySem.F.type_list_append mt_append (uv 2 (hv := vi_law_2)) (pa_cons (pe_tup (pa_cons (pe_ix ux_seq (uv 2 (hv := vi_law_2)) pe_int (fun _ _ => rfl)) (pa_cons pe_str pa_nil))) pa_nil)))
      (pss_cons (ps_set (i := 3) sc_law.nd rfl lo_law_3 (pe_lst pa_nil))
      (pss_cons (ps_for (passes_of rfl) rfl (RZ.pi_zipA rfl T.z_zip (pa_cons (uv 2 (hv := vi_law_2)) (pa_cons (pe_op uo_add (pe_slice us_sl (uv 2 (hv := vi_law_2)) (po_some pe_int) po_none) (pe_slice us_sl (uv 2 (hv := vi_law_2)) po_none (po_some pe_int))) pa_nil))) (pg_tup rfl (pgs_cons (pg_name (i := 4) sc_law.nd rfl lo_law_4) (pgs_cons (pg_name (i := 5) sc_law.nd rfl lo_law_5) pgs_nil))) (pss_cons (ps_for (passes_of rfl) rfl (ui_seq (pe_tup (pa_cons (pe_lc (own := [("_law_k", 7)]) (g := gName 7) rfl sc_law.nd (pi_range1 rfl T.z_range (pa_cons pe_int pa_nil)) (blkOk_by (own := [("_law_k", 7)]) (N := N_law) (sc := defScope s_law) (by decide +kernel)) (fun _ _ _ _ _ => (pg_name (i := 7) sc_law.nd rfl (by first | exact Or.inl rfl | exact Or.inr rfl))) (fun _ _ _ _ _ => pts_nil) (fun _ _ _ _ _ => (pe_callD (ok_law_made T) (hr.mono (by decide)) rfl T.m_law_made T.F_law_made.kp T.b_law_made .nil (fun _ => passAt0) (pa_cons (uv 7) (pa_cons (uv 4) (pa_cons (uv 5) pa_nil)))))) (pa_cons (pe_lc (own := [("_law_k", 7)]) (g := gName 7) rfl sc_law.nd (pi_range1 rfl T.z_range (pa_cons pe_int pa_nil)) (blkOk_by (own := [("_law_k", 7)]) (N := N_law) (sc := defScope s_law) (by decide +kernel)) (fun _ _ _ _ _ => (pg_name (i := 7) sc_law.nd rfl (by first | exact Or.inl rfl | exact Or.inr rfl))) (fun _ _ _ _ _ => pts_nil) (fun _ _ _ _ _ => (pe_callD (ok_law_named T) (hr.mono (by decide)) rfl T.m_law_named T.F_law_named.kp T.b_law_named .nil (fun _ => passAt0) (pa_cons (uv 7) (pa_cons (uv 4) (pa_cons (uv 5) pa_nil)))))) pa_nil)))) (pg_name (i := 6) sc_law.nd rfl lo_law_6) (pss_one (ps_expr (pe_bm PySem.F.plainAttrs_list PySem.F.slot_list_append PySem.F.type_list_append mt_append (uv 3 (hv := vi_law_3)) (pa_cons (pe_tup (pa_cons (uv 6 (hv := vi_law_6)) (pa_cons (uv 4 (hv := vi_law_4)) (pa_cons (uv 5 (hv := vi_law_5)) pa_nil)))) pa_nil)))))
      (pss_one (ps_if (pt_not (ut (pe_callD (ok_law_taken T) (hr.mono (by decide)) rfl T.m_law_taken T.F_law_taken.kp T.b_law_taken .nil (fun σ => passAt (takes_of rfl rfl rfl rfl) σ) (pa_cons (uv 4 (hv := vi_law_4)) (pa_cons (uv 5 (hv := vi_law_5)) pa_nil))))) (pss_one (ps_ret pe_bl)) pss_nil))))
      (pss_cons (ps_for (passes_of rfl) rfl (ui_seq (uv 3 (hv := vi_law_3))) (pg_tup rfl (pgs_cons (pg_name (i := 6) sc_law.nd rfl lo_law_6) (pgs_cons (pg_name (i := 4) sc_law.nd rfl lo_law_4) (pgs_cons (pg_name (i := 5) sc_law.nd rfl lo_law_5) pgs_nil)))) (pss_cons (ps_if (pt_not (ut (pe_callD (ok_law_fields T) (hr.mono (by decide)) rfl T.m_law_fields T.F_law_fields.kp T.b_law_fields .nil (fun σ => passAt (takes_of rfl rfl rfl rfl) σ) (pa_cons (uv 6 (hv := vi_law_6)) (pa_cons (uv 4 (hv := vi_law_4)) (pa_cons (uv 5 (hv := vi_law_5)) pa_nil)))))) (pss_one (ps_ret pe_bl)) pss_nil)
      (pss_one (ps_for (passes_of rfl) rfl (ui_enum rfl T.z_enumerate (pa_cons (uv 6 (hv := vi_law_6)) pa_nil)) (pg_tup rfl (pgs_cons (pg_name (i := 7) sc_law.nd rfl lo_law_7) (pgs_cons (pg_name (i := 8) sc_law.nd rfl lo_law_8) pgs_nil))) (pss_cons (ps_if (pt_cmpR (op_neD hr.units) (pe_callD (ok_law_kinds T) (hr.mono (by decide)) rfl T.m_law_kinds T.F_law_kinds.kp T.b_law_kinds .nil (fun σ => passAt (takes_of rfl rfl rfl rfl) σ) (pa_cons (uv 8 (hv := vi_law_8)) pa_nil)) (pe_lc (own := [("_law_j", 11)]) (g := gName 11) rfl sc_law.nd (pi_range1 rfl T.z_range (pa_cons pe_int pa_nil)) (blkOk_by (own := [("_law_j", 11)]) (N := N_law) (sc := defScope s_law) (by decide +kernel)) (fun _ _ _ _ _ => (pg_name (i := 11) sc_law.nd rfl (by first | exact Or.inl rfl | exact Or.inr rfl))) (fun _ _ _ _ _ => pts_nil) (fun _ _ _ _ _ => (pe_cmpR op_eq (uv 11) (uv 7) (nomark _)))) (nomark _)) (pss_one (ps_ret pe_bl)) pss_nil)
      (pss_cons (ps_set (i := 9) sc_law.nd rfl lo_law_9 (pe_and (pe_callB (uk_isV K) rfl T.z_isinstance boot_isinstance (pa_cons (uv 8 (hv := vi_law_8)) (pa_cons (pe_glob (v := .ref T.a_BoughError) rfl T.m_BoughError rfl) pa_nil))) (pe_one (pe_callB (uk_isV K) rfl T.z_isinstance boot_isinstance (pa_cons (uv 8 (hv := vi_law_8)) (pa_cons (pe_bltn (v := .ty "ValueError") rfl T.z_ValueError (by decide +kernel) rfl) pa_nil))))))
      (pss_cons (ps_set (i := 10) sc_law.nd rfl lo_law_10 (pe_lst (pa_cons (uv 9 (hv := vi_law_9)) (pa_cons (pe_callB (uk_isV K) rfl T.z_isinstance boot_isinstance (pa_cons (uv 8 (hv := vi_law_8)) (pa_cons (pe_bltn (v := .ty "ZeroDivisionError") rfl T.z_ZeroDivisionError (by decide +kernel) rfl) pa_nil))) (pa_cons (pe_callB (uk_isV K) rfl T.z_isinstance boot_isinstance (pa_cons (uv 8 (hv := vi_law_8)) (pa_cons (pe_bltn (v := .ty "KeyError") rfl T.z_KeyError (by decide +kernel) rfl) pa_nil))) (pa_cons (pe_callB (uk_isV K) rfl T.z_isinstance boot_isinstance (pa_cons (uv 8 (hv := vi_law_8)) (pa_cons (pe_bltn (v := .ty "IndexError") rfl T.z_IndexError (by decide +kernel) rfl) pa_nil))) pa_nil))))))
      (pss_one (ps_if (pt_cmpR (op_neD hr.units) (uv 10 (hv := vi_law_10)) (pe_lst (pa_cons (pe_cmpR uo_lt (uv 7 (hv := vi_law_7)) pe_int (nomark _)) (pa_cons (pe_cmpR op_eq (uv 7 (hv := vi_law_7)) pe_int (nomark _)) (pa_cons (pe_cmpR op_eq (uv 7 (hv := vi_law_7)) pe_int (nomark _)) (pa_cons (pe_cmpR op_eq (uv 7 (hv := vi_law_7)) pe_int (nomark _)) pa_nil))))) (nomark _)) (pss_one (ps_ret pe_bl)) pss_nil)))))))))
      (pss_one (ps_ret pe_bl)))))))), ?_⟩
  walk_at "go"
  refine ⟨scr, ns, 0, rfl, hS, hl, fun p H2 hp e2 hb2 => ?_⟩
  walk_at "go"
  refine ⟨p, 9, rfl, hb2, by decide, by decide, fun d1 H3 d10 d11 b3 hb3 => ?_⟩
  walk_at "go"
  refine ⟨p, 10 ^ 12, rfl, hb3, by decide, by decide, fun d2 H4 d20 d21 b4 hb4 => ?_⟩
  walk_at "go"
  refine ⟨p, 9, rfl, hb4, by decide, by decide, fun d3 H5 d30 d31 b5 hb5 => ?_⟩
  clear b3 b4 b5 hb2 hb3 hb4
  walk_at "go"
  refine g_repS d30 (by omega) (by decide) ?_
  walk_at "go"
  refine g_new fun t0 ht0 => ?_
  have f1 := Ex.new (o := .tup []) ht0
  have a1 := @upd_same H5 t0 (.tup [])
  revert f1 a1
  generalize upd H5 t0 (.tup []) = H6
  intro f1 a1
  walk_at "go"
  refine g_new fun TL hTL => ?_
  have f2 := Ex.new (o := .lst [.int d1, .int (0 - 1 - d2), .str (repS "x" d3), .non, .ref t0, .bl true]) hTL
  have a2 := @upd_same H6 TL (.lst [.int d1, .int (0 - 1 - d2), .str (repS "x" d3), .non, .ref t0, .bl true])
  have c2 := f2 _ _ a1
  clear hTL
  revert f2 a2 c2
  generalize upd H6 TL (.lst [.int d1, .int (0 - 1 - d2), .str (repS "x" d3), .non, .ref t0, .bl true]) = H7
  intro f2 a2 c2
  walk_at "go"
  refine g_new fun t1 ht1 => ?_
  have f3 := Ex.new (o := .tup [.int d1, .str "y"]) ht1
  have a3 := @upd_same H7 t1 (.tup [.int d1, .str "y"])
  have g3 := f3 _ _ a2
  have c3 := f3 _ _ c2
  clear ht1
  revert f3 a3 g3 c3
  generalize upd H7 t1 (.tup [.int d1, .str "y"]) = H8
  intro f3 a3 g3 c3
  walk_at "go"
  refine g_app g3 (Nat.lt_of_le_of_lt (show 6 ≤ 1000 by decide) (by decide)) ?_
  have g4 : upd H8 TL (.lst ([.int d1, .int (0 - 1 - d2), .str (repS "x" d3), .non, .ref t0, .bl true] ++ [.ref t1])) TL = some (.lst [.int d1, .int (0 - 1 - d2), .str (repS "x" d3), .non, .ref t0, .bl true, .ref t1]) := upd_same
  have n1 : t1 ≠ TL := fun z => by rw [z, g3] at a3; cases a3
  have n0 : t0 ≠ TL := fun z => by rw [z, g3] at c3; cases c3
  have a4 : upd H8 TL (.lst ([.int d1, .int (0 - 1 - d2), .str (repS "x" d3), .non, .ref t0, .bl true] ++ [.ref t1])) t1 = some (.tup [.int d1, .str "y"]) := by rw [upd_ne n1]; exact a3
  have c4 : upd H8 TL (.lst ([.int d1, .int (0 - 1 - d2), .str (repS "x" d3), .non, .ref t0, .bl true] ++ [.ref t1])) t0 = some (.tup []) := by rw [upd_ne n0]; exact c3
  revert g4 a4 c4
  generalize upd H8 TL (.lst ([.int d1, .int (0 - 1 - d2), .str (repS "x" d3), .non, .ref t0, .bl true] ++ [.ref t1])) = H9
  intro g4 a4 c4
  have hth : ∀ v ∈ ([.int d1, .int (0 - 1 - d2), .str (repS "x" d3), .non, .ref t0, .bl true, .ref t1] : List V), ThOk H9 v := by
    intro v hv
    simp only [List.mem_cons, List.not_mem_nil, or_false] at hv
    rcases hv with rfl | rfl | rfl | rfl | rfl | rfl | rfl
    · exact ⟨.int d1, ⟨trivial, Nat.zero_le _⟩, rfl, rfl⟩
    · exact ⟨.int (0 - 1 - d2), ⟨trivial, Nat.zero_le _⟩, rfl, rfl⟩
    · exact ⟨.str (repS "x" d3), ⟨xs_sig d3, Nat.zero_le _⟩, rfl, rfl⟩
    · exact ⟨.non, ⟨trivial, Nat.zero_le _⟩, rfl, rfl⟩
    · exact ⟨.tup [], ⟨trivial, by decide⟩, rfl, _, _, rfl, c4, rfl⟩
    · exact ⟨.bl true, ⟨trivial, Nat.zero_le _⟩, rfl, rfl⟩
    · exact ⟨.tup [.int d1, .str "y"], ⟨⟨trivial, by show ∀ c ∈ ("y" : Str).cps.toList, c < 0x110000; decide, trivial⟩, by simp [D.dep, D.deps]⟩, rfl, _, _, rfl, a4, _, _, rfl, rfl, _, _, rfl, rfl, rfl⟩
  clear a4 c4 g3 a3 c3 f3 f2 f1 a1 a2 c2 ht0 n1 n0
  have lth : ([.int d1, .int (0 - 1 - d2), .str (repS "x" d3), .non, .ref t0, .bl true, .ref t1] : List V).length = 7 := rfl
  revert g4 hth lth
  generalize ([.int d1, .int (0 - 1 - d2), .str (repS "x" d3), .non, .ref t0, .bl true, .ref t1] : List V) = th
  intro g4 hth lth
  walk_at "go"
  refine g_new fun M hM => ?_
  have f1 := Ex.new (o := .lst []) hM
  have m1 := @upd_same H9 M (.lst [])
  have g5 := f1 _ _ g4
  have nMT : TL ≠ M := ne_of_none g4 hM
  have hth1 : ∀ v ∈ th, ThOk (upd H9 M (.lst [])) v := fun v hv => (hth v hv).tk f1.tk
  clear hM hth g4
  revert f1 m1 g5 hth1
  generalize upd H9 M (.lst []) = G0
  intro f1 m1 g5 hth1
  clear f1
  walk_at "go"
  refine g_slLU g5 fun S1 hS1 => ?_
  have x1 := Ex.new (o := .lst (cutV th (some 1) none)) hS1
  have s1 := @upd_same G0 S1 (.lst (cutV th (some 1) none))
  clear hS1
  revert x1 s1
  generalize upd G0 S1 (.lst (cutV th (some 1) none)) = G1
  intro x1 s1
  walk_at "go"
  refine g_slLU (x1 _ _ g5) fun S2 hS2 => ?_
  have x2 := Ex.new (o := .lst (cutV th none (some 1))) hS2
  have s2 := @upd_same G1 S2 (.lst (cutV th none (some 1)))
  clear hS2
  revert x2 s2
  generalize upd G1 S2 (.lst (cutV th none (some 1))) = G2
  intro x2 s2
  walk_at "go"
  have l12 : (cutV th (some 1) none).length + (cutV th none (some 1)).length = 7 := by
    match th, lth with
    | [_, _, _, _, _, _, _], _ => rfl
  refine g_catL (x2 _ _ s1) s2 (by omega) fun S3 hS3 => ?_
  have x3 := (x1.trans x2).trans (Ex.new (o := .lst (cutV th (some 1) none ++ cutV th none (some 1))) hS3)
  have s3 := @upd_same G2 S3 (.lst (cutV th (some 1) none ++ cutV th none (some 1)))
  have nMS : S3 ≠ M := fun z => by rw [z, (x1.trans x2) _ _ m1] at hS3; cases hS3
  have hs3 : ∀ v ∈ cutV th (some 1) none ++ cutV th none (some 1), v ∈ th := fun v hv => by
    rcases List.mem_append.1 hv with h | h
    · exact cutV_mem h
    · exact cutV_mem h
  have l3 : (cutV th (some 1) none ++ cutV th none (some 1)).length = 7 := by rw [List.length_append]; exact l12
  clear hS3 x1 x2 s1 s2 l12
  revert x3 s3 hs3 l3
  generalize upd G2 S3 (.lst (cutV th (some 1) none ++ cutV th none (some 1))) = G3
  generalize cutV th (some 1) none ++ cutV th none (some 1) = rot
  intro x3 s3 hs3 l3
  have m3 := x3 _ _ m1
  have g3 := x3 _ _ g5
  have hth3 : ∀ v ∈ th, ThOk G3 v := fun v hv => (hth1 v hv).tk x3.tk
  clear x3 m1 g5 hth1
  walk_at "go"
  refine ⟨TL, S3, th, rot, rfl, .inl ⟨sqL g3, sqL s3, ?_⟩⟩
  refine for_itC (walk_zip (n := 7) (by rw [lth, l3]; rfl)) (fun i σ H => (∃ o4 o5 o6, σ = [some (.ref scr), some (.ref p), some (.ref TL), some (.ref M), o4, o5, o6, none, none, none, none, none]) ∧ But M G3 H ∧ ∃ ms, H M = some (.lst ms) ∧ ms.length ≤ 2 * i ∧ ∀ x ∈ ms, ItErr (clT T) (nw G3 H) x)
    ⟨⟨_, _, _, rfl⟩, But.refl _ _, [], m3, Nat.zero_le _, fun x hx => nomatch hx⟩ (fun i σ H _ h => ⟨sqL (h.2.1 _ _ nMT g3), sqL (h.2.1 _ _ nMS s3)⟩) ?_ ?_
  · rintro RT BK i x σ H H' hi ⟨⟨o4, o5, o6, rfl⟩, b1, ms, hm, lm, hms⟩ ⟨tz, y, z, rfl, htz, rfl, ey, ez⟩
    have k1 := Ex.new (o := .tup [y, z]) htz
    have b2 := b1.trans (k1.but M)
    have hm2 := k1 _ _ hm
    have hms2 : ∀ x ∈ ms, ItErr (clT T) (nw G3 (upd H tz (.tup [y, z]))) x := fun x hx => (hms x hx).ex (nw_exm k1)
    have at2 := @upd_same H tz (.tup [y, z])
    clear hm hms b1 htz k1
    revert b2 hm2 hms2 at2
    generalize upd H tz (.tup [y, z]) = F0
    intro b2 hm2 hms2 at2
    have ty : ThOk F0 y := (hth3 y (List.mem_of_getElem? ey)).tk (b2.tkl m3)
    have tz' : ThOk F0 z := (hth3 z (hs3 z (List.mem_of_getElem? ez))).tk (b2.tkl m3)
    obtain ⟨dy, ty1, ty2, ty3⟩ := ty
    obtain ⟨dz, tz1, tz2, tz3⟩ := tz'
    clear ey ez
    refine g_tup2 at2 ?_
    walk_at "go"
    refine g_seqTs ?_
    walk_at "go"
    refine ⟨_, rfl, by omega, by omega, fun D1 hD1 => ?_⟩
    refine lc_mapX walk_range (fun j Hb v => ∃ a, v = .ref a ∧ EAt (nw (upd F0 D1 (.lst [])) Hb) (clT T j) (fldS j y z) a) (by omega) hD1 (fun j Hb Hc v bt r => by
      obtain ⟨a, e, r⟩ := r
      exact ⟨a, e, r.ex (nw_but upd_same bt)⟩) (fun _ _ => trivial) ?_ ?_
    · rintro j x Hb Hb' P' N2 hj eb lb ⟨rfl, rfl⟩ kk
      walk_at "go"
      refine ⟨rfl, ?_⟩
      walk_at "go"
      refine ⟨j, y, z, by show [V.int (0 + (j : Int)), y, z] ++ [] = _; rw [Int.zero_add]; rfl, hj, fun a H4 e4 h4 => ?_⟩
      exact kk _ _ e4 ⟨a, rfl, h4.nw (lb.trans (Ls.ex e4))⟩
    intro F1 acc1 e1 hd1 la1 hr1
    walk_at "go"
    refine ⟨_, rfl, by omega, by omega, fun D2 hD2 => ?_⟩
    have ls0 : Ls G3 F0 := b2.ls hm2
    have nD1 : G3 D1 = none := by
      cases c : G3 D1 with
      | none => rfl
      | some o =>
        by_cases cc : D1 = M
        · rw [cc, hm2] at hD1
          cases hD1
        · rw [b2 _ _ cc c] at hD1
          cases hD1
    have made1 := made_of (cl := clT T) ls0 nD1 hd1 la1 hr1
    clear hr1
    have b3 := b2.trans (e1.but M)
    have hm3 := e1 _ _ hm2
    refine lc_mapX walk_range (fun j Hb v => ∃ a, v = .ref a ∧ EAt (nw (upd F1 D2 (.lst [])) Hb) (clT T j) (fldS j y z) a) (by omega) hD2 (fun j Hb Hc v bt r => by
      obtain ⟨a, e, r⟩ := r
      exact ⟨a, e, r.ex (nw_but upd_same bt)⟩) (fun _ _ => trivial) ?_ ?_
    · rintro j x Hb Hb' P' N2 hj eb lb ⟨rfl, rfl⟩ kk
      walk_at "go"
      refine ⟨rfl, ?_⟩
      walk_at "go"
      refine ⟨j, y, z, by show [V.int (0 + (j : Int)), y, z] ++ [] = _; rw [Int.zero_add]; rfl, hj, fun a H4 e4 h4 => ?_⟩
      exact kk _ _ e4 ⟨a, rfl, h4.nw (lb.trans (Ls.ex e4))⟩
    intro F2 acc2 e2' hd2 la2 hr2
    have ls1 : Ls G3 F1 := b3.ls hm3
    have nD2 : G3 D2 = none := by
      cases c : G3 D2 with
      | none => rfl
      | some o =>
        by_cases cc : D2 = M
        · rw [cc, hm3] at hD2
          cases hD2
        · rw [b3 _ _ cc c] at hD2
          cases hD2
    have made2 := made_of (cl := clT T) ls1 nD2 hd2 la2 hr2
    clear hr2
    have made1' := made1.ex (nw_exm e2')
    have b4 := b3.trans (e2'.but M)
    have hm4 := e2' _ _ hm3
    have e12 := e1.trans e2'
    have hms4 : ∀ x ∈ ms, ItErr (clT T) (nw G3 F2) x := fun x hx => (hms2 x hx).ex (nw_exm e12)
    walk_at "go"
    refine g_new fun tt htt => ?_
    have k2 := Ex.new (o := .tup [.ref D1, .ref D2]) htt
    have c2 := @upd_same F2 tt (.tup [.ref D1, .ref D2])
    have b5 := b4.trans (k2.but M)
    have hm5 := k2 _ _ hm4
    have hms5 : ∀ x ∈ ms, ItErr (clT T) (nw G3 (upd F2 tt (.tup [.ref D1, .ref D2]))) x := fun x hx => (hms4 x hx).ex (nw_exm k2)
    have ma1 := made1'.ex (nw_exm k2)
    have ma2 := made2.ex (nw_exm k2)
    have ry := ty3.ex (e12.trans k2)
    have rz := tz3.ex (e12.trans k2)
    clear htt made1 made1' made2 hms4 hms2 hm4 hm3 hm2 b4 b3 b2 hD1 hD2 hd1 hd2 ls0 ls1 ty3 tz3 nD1 nD2 at2 e2' e12 e1 la1 la2
    revert c2 b5 hm5 hms5 ma1 ma2 ry rz k2
    generalize upd F2 tt (.tup [.ref D1, .ref D2]) = F3
    intro k2 c2 b5 hm5 hms5 ma1 ma2 ry rz
    clear k2
    have ntM : tt ≠ M := fun z => by rw [z, hm5] at c2; cases c2
    have tk5 := b5.tkl m3
    walk_at "go"
    refine ⟨_, rfl, ⟨_, sqT c2⟩, ?_⟩
    refine for_itC walk_tup (fun j σ H => (∃ o6, σ = [some (.ref scr), some (.ref p), some (.ref TL), some (.ref M), some y, some z, o6, none, none, none, none, none]) ∧ But M F3 H ∧ ∃ ms', H M = some (.lst ms') ∧ ms'.length ≤ 2 * i + j ∧ ∀ x ∈ ms', ItErr (clT T) (nw G3 H) x)
      ⟨⟨_, rfl⟩, But.refl _ _, ms, hm5, lm, hms5⟩ (fun j σ H _ h => sqT (h.2.1 _ _ ntM c2)) ?_ ?_
    · rintro RT2 BK2 j x σ Ha Ha' hj ⟨⟨o6', rfl⟩, ba, ms', hma, lma, hmsa⟩ ⟨rfl, hx⟩
      have mx : ∃ L as, x = .ref L ∧ MadeS (clT T) y z (nw G3 F3) L as := by
        match j, hj, hx with
        | 0, _, hx =>
          cases hx
          exact ⟨_, _, rfl, ma1⟩
        | 1, _, hx =>
          cases hx
          exact ⟨_, _, rfl, ma2⟩
      obtain ⟨L, as, rfl, mx⟩ := mx
      have mxa := mx.ex (nw_but m3 ba)
      have rya := ry.tk (ba.tkl hm5) ty2
      have rza := rz.tk (ba.tkl hm5) tz2
      walk_at "go"
      refine g_new fun tu htu => ?_
      have k3 := Ex.new (o := .tup [.ref L, y, z]) htu
      have c3 := @upd_same Ha' tu (.tup [.ref L, y, z])
      have ls3 : Ls G3 Ha' := (b5.trans ba).ls hma
      have new : ItErr (clT T) (nw G3 (upd Ha' tu (.tup [.ref L, y, z]))) (.ref tu) :=
        ⟨tu, L, as, y, z, dy, dz, rfl, nw_tkl (ls3.trans (Ls.ex k3)) _ _ c3, mxa.ex (nw_exm k3), ty1, tz1, (rya.ex k3).tk (nw_tkl (ls3.trans (Ls.ex k3))) ty2, (rza.ex k3).tk (nw_tkl (ls3.trans (Ls.ex k3))) tz2⟩
      have hms3 : ∀ x ∈ ms', ItErr (clT T) (nw G3 (upd Ha' tu (.tup [.ref L, y, z]))) x := fun x hx => (hmsa x hx).ex (nw_exm k3)
      have hm3 := k3 _ _ hma
      have b3 := ba.trans (k3.but M)
      clear htu mxa rya rza hmsa
      revert new hms3 hm3 b3
      generalize upd Ha' tu (.tup [.ref L, y, z]) = Hc
      intro new hms3 hm3 b3
      walk_at "go"
      refine g_app hm3 (Nat.lt_of_le_of_lt (by have : j < 2 := hj; omega : ms'.length ≤ 1000) (by decide)) ?_
      have bu : But M Hc (upd Hc M (.lst (ms' ++ [.ref tu]))) := (But.refl _ _).upd
      walk_at "go"
      refine ⟨⟨_, rfl⟩, b3.trans bu, _, upd_same, by rw [List.length_append]; show ms'.length + 1 ≤ _; omega, fun x hx => ?_⟩
      rcases List.mem_append.1 hx with hx | hx
      · exact (hms3 x hx).ex (nw_but m3 bu)
      · rw [List.mem_singleton.1 hx]
        exact new.ex (nw_but m3 bu)
    rintro σ Ha ⟨⟨o6', rfl⟩, ba, ms', hma, lma, hmsa⟩
    have rya := ry.tk (ba.tkl hm5) ty2
    have rza := rz.tk (ba.tkl hm5) tz2
    walk_at "go"
    refine ⟨y, z, dy, dz, rfl, ty1, tz1, rya, rza, fun Hd ed => ?_⟩
    walk_at "go"
    exact ⟨⟨_, _, _, rfl⟩, (b5.trans ba).trans (ed.but M), ms', ed _ _ hma, lma, fun x hx => (hmsa x hx).ex (nw_exm ed)⟩
  rintro σ H0 ⟨⟨o4, o5, o6, rfl⟩, b1, ms, hm, lm, hms⟩
  have hms0 : ∀ x ∈ ms, ItErr (clT T) H0 x := fun x hx => (hms x hx).ex (nw_ex _ _)
  clear hms b1 lm
  walk_at "go"
  refine g_seqLs ?_
  walk_at "go"
  refine ⟨_, rfl, ⟨_, sqL hm⟩, ?_⟩
  refine for_itC walk_list (fun i σ H => (∃ o4 o5 o6 o7 o8 o9 o10, σ = [some (.ref scr), some (.ref p), some (.ref TL), some (.ref M), o4, o5, o6, o7, o8, o9, o10, none]) ∧ Ex H0 H)
    ⟨⟨_, _, _, _, _, _, _, rfl⟩, Ex.refl _⟩ (fun i σ H _ h => sqL (h.2 _ _ hm)) ?_ ?_
  · rintro RT BK i x σ H H' hi ⟨⟨o4, o5, o6, o7, o8, o9, o10, rfl⟩, e1⟩ ⟨rfl, hx⟩
    obtain ⟨t, L, as, y, z, d, e, rfl, ht, m, td, te, rd, re⟩ := (hms0 x (List.mem_of_getElem? hx)).ex e1
    refine g_tup3 ht ?_
    walk_at "go"
    refine ⟨L, as, y, z, d, e, rfl, m, td, te, rd, re, fun Hb eb => ?_⟩
    have mb := m.ex eb
    walk_at "go"
    refine g_enL ?_
    walk_at "go"
    refine ⟨_, _, rfl, sqL mb.1, ?_⟩
    refine for_itC walk_enum (fun j σ H => (∃ o7 o8 o9 o10, σ = [some (.ref scr), some (.ref p), some (.ref TL), some (.ref M), some y, some z, some (.ref L), o7, o8, o9, o10, none]) ∧ Ex Hb H)
      ⟨⟨_, _, _, _, rfl⟩, Ex.refl _⟩ (fun j σ H _ h => sqL (h.2 _ _ mb.1)) ?_ ?_
    · rintro RT2 BK2 j x σ Ha Ha' hj ⟨⟨o7, o8, o9, o10, rfl⟩, ea⟩ ⟨tz, u, v, rfl, htz, rfl, eu, ev⟩
      cases eu
      rw [List.length_map, mb.2.1] at hj
      replace ev : (as.map V.ref)[j]? = some v := ev
      rw [List.getElem?_map] at ev
      cases haj : as[j]? with
      | none => rw [haj] at ev; cases ev
      | some a =>
      rw [haj] at ev
      cases ev
      have k1 := Ex.new (o := .tup [.int (j : Nat), .ref a]) htz
      have ek := ea.trans k1
      have hea := (mb.2.2 j a haj).ex ek
      have at1 := @upd_same Ha tz (.tup [.int (j : Nat), .ref a])
      clear htz k1
      revert ek hea at1
      generalize upd Ha tz (.tup [.int (j : Nat), .ref a]) = Hc
      intro ek hea at1
      refine g_tup2 at1 ?_
      walk_at "go"
      refine ⟨j, a, _, rfl, hj, hea, fun q1 H1 e1' hq1 => ?_⟩
      walk_at "go"
      refine ⟨_, rfl, by omega, by omega, fun D hD => ?_⟩
      refine lc_mapE walk_range (fun i H v => v = .bl (decide (i = j))) (by omega) hD (fun _ _ _ _ _ r => r) (fun _ _ => trivial) ?_ ?_
      · rintro j2 x Hd Hd' P' N2 hj2 eb2 ⟨rfl, rfl⟩ kk
        walk_at "go"
        refine ⟨rfl, ?_⟩
        walk_at "go"
        refine kk _ _ (Ex.refl _) ?_
        show V.bl (decide (V.int (0 + (j2 : Int)) = V.int (j : Int))) = _
        refine congrArg V.bl (decide_eq_decide.2 ⟨fun h => ?_, fun h => ?_⟩)
        · have := V.int.inj h
          omega
        · rw [h, Int.zero_add]
      intro He acc ee hDe hla hra
      have eacc : acc = ((List.range 14).map fun i => decide (i = j)).map V.bl := by
        apply List.ext_getElem?
        intro i
        by_cases hi2 : i < 14
        · have hl2 : i < acc.length := by omega
          rw [List.getElem?_eq_getElem hl2, hra i _ (List.getElem?_eq_getElem hl2), List.getElem?_map, List.getElem?_map, List.getElem?_range hi2]
          rfl
        · rw [List.getElem?_eq_none (by omega), List.getElem?_eq_none (by rw [List.length_map, List.length_map, List.length_range]; omega)]
      rw [eacc] at hDe
      walk_at "go"
      refine g_neBs (ee _ _ hq1) hDe ?_
      have fE := (e1'.trans ee)
      have heE := hea.ex fE
      have ec := excS T j hj
      walk_at "go"
      refine i_nb (by simp) fun _ => ?_
      walk_at "go"
      refine g_isV heE ec (kitB5 T j hj) ?_
      walk_at "go"
      refine i_b (fun h11 => ?_) (fun h11 => ?_)
      · walk_at "go"
        refine g_isVT heE ec (kitV5 T j hj) ?_
        rw [h11]
        walk_at "go"
        refine g_isVT heE ec (kitZ5 T j hj) ?_
        walk_at "go"
        refine g_isVT heE ec (kitK5 T j hj) ?_
        walk_at "go"
        refine g_isVT heE ec (kitI5 T j hj) ?_
        walk_at "go"
        refine g_new fun La hLa => ?_
        have p1 := Ex.new (o := .lst [.bl true, .bl (decide (j = 11)), .bl (decide (j = 12)), .bl (decide (j = 13))]) hLa
        have r1 : upd He La (.lst [.bl true, .bl (decide (j = 11)), .bl (decide (j = 12)), .bl (decide (j = 13))]) La = some (.lst ([true, decide (j = 11), decide (j = 12), decide (j = 13)].map V.bl)) := upd_same
        clear hLa
        revert p1 r1
        generalize upd He La (.lst [.bl true, .bl (decide (j = 11)), .bl (decide (j = 12)), .bl (decide (j = 13))]) = Hf
        intro p1 r1
        walk_at "go"
        refine g_new fun Lb hLb => ?_
        have p2 := Ex.new (o := .lst [.bl (decide ((j : Int) < 11)), .bl (decide (V.int (j : Int) = V.int 11)), .bl (decide (V.int (j : Int) = V.int 12)), .bl (decide (V.int (j : Int) = V.int 13))]) hLb
        have r2 : upd Hf Lb (.lst [.bl (decide ((j : Int) < 11)), .bl (decide (V.int (j : Int) = V.int 11)), .bl (decide (V.int (j : Int) = V.int 12)), .bl (decide (V.int (j : Int) = V.int 13))]) Lb = some (.lst ([true, decide (j = 11), decide (j = 12), decide (j = 13)].map V.bl)) := by
          rw [upd_same]
          have z : ∀ n : Nat, decide (V.int (j : Int) = V.int (n : Int)) = decide (j = n) := fun n => decide_eq_decide.2 ⟨fun h => by have := V.int.inj h; omega, fun h => by rw [h]⟩
          have z0 : decide ((j : Int) < 11) = true := by
            rw [show (true : Bool) = decide (j < 11) from h11.symm]
            exact decide_eq_decide.2 ⟨fun h => by omega, fun h => by omega⟩
          have z1 := z 11
          have z2 := z 12
          have z3 := z 13
          rw [z0, show decide (V.int (j : Int) = V.int 11) = decide (j = 11) from z1, show decide (V.int (j : Int) = V.int 12) = decide (j = 12) from z2, show decide (V.int (j : Int) = V.int 13) = decide (j = 13) from z3]
          rfl
        clear hLb
        revert p2 r2
        generalize upd Hf Lb (.lst [.bl (decide ((j : Int) < 11)), .bl (decide (V.int (j : Int) = V.int 11)), .bl (decide (V.int (j : Int) = V.int 12)), .bl (decide (V.int (j : Int) = V.int 13))]) = Hg
        intro p2 r2
        walk_at "go"
        refine g_neBs (p2 _ _ r1) r2 ?_
        walk_at "go"
        refine i_nb (by simp) fun _ => ?_
        walk_at "go"
        exact ⟨⟨_, _, _, _, rfl⟩, ek.trans (fE.trans (p1.trans p2))⟩
      · skip
        walk_at "go"
        refine g_isVT heE ec (kitZ5 T j hj) ?_
        walk_at "go"
        refine g_isVT heE ec (kitK5 T j hj) ?_
        walk_at "go"
        refine g_isVT heE ec (kitI5 T j hj) ?_
        walk_at "go"
        refine g_new fun La hLa => ?_
        have p1 := Ex.new (o := .lst [.bl false, .bl (decide (j = 11)), .bl (decide (j = 12)), .bl (decide (j = 13))]) hLa
        have r1 : upd He La (.lst [.bl false, .bl (decide (j = 11)), .bl (decide (j = 12)), .bl (decide (j = 13))]) La = some (.lst ([false, decide (j = 11), decide (j = 12), decide (j = 13)].map V.bl)) := upd_same
        clear hLa
        revert p1 r1
        generalize upd He La (.lst [.bl false, .bl (decide (j = 11)), .bl (decide (j = 12)), .bl (decide (j = 13))]) = Hf
        intro p1 r1
        walk_at "go"
        refine g_new fun Lb hLb => ?_
        have p2 := Ex.new (o := .lst [.bl (decide ((j : Int) < 11)), .bl (decide (V.int (j : Int) = V.int 11)), .bl (decide (V.int (j : Int) = V.int 12)), .bl (decide (V.int (j : Int) = V.int 13))]) hLb
        have r2 : upd Hf Lb (.lst [.bl (decide ((j : Int) < 11)), .bl (decide (V.int (j : Int) = V.int 11)), .bl (decide (V.int (j : Int) = V.int 12)), .bl (decide (V.int (j : Int) = V.int 13))]) Lb = some (.lst ([false, decide (j = 11), decide (j = 12), decide (j = 13)].map V.bl)) := by
          rw [upd_same]
          have z : ∀ n : Nat, decide (V.int (j : Int) = V.int (n : Int)) = decide (j = n) := fun n => decide_eq_decide.2 ⟨fun h => by have := V.int.inj h; omega, fun h => by rw [h]⟩
          have z0 : decide ((j : Int) < 11) = false := by
            rw [show (false : Bool) = decide (j < 11) from h11.symm]
            exact decide_eq_decide.2 ⟨fun h => by omega, fun h => by omega⟩
          have z1 := z 11
          have z2 := z 12
          have z3 := z 13
          rw [z0, show decide (V.int (j : Int) = V.int 11) = decide (j = 11) from z1, show decide (V.int (j : Int) = V.int 12) = decide (j = 12) from z2, show decide (V.int (j : Int) = V.int 13) = decide (j = 13) from z3]
          rfl
        clear hLb
        revert p2 r2
        generalize upd Hf Lb (.lst [.bl (decide ((j : Int) < 11)), .bl (decide (V.int (j : Int) = V.int 11)), .bl (decide (V.int (j : Int) = V.int 12)), .bl (decide (V.int (j : Int) = V.int 13))]) = Hg
        intro p2 r2
        walk_at "go"
        refine g_neBs (p2 _ _ r1) r2 ?_
        walk_at "go"
        refine i_nb (by simp) fun _ => ?_
        walk_at "go"
        exact ⟨⟨_, _, _, _, rfl⟩, ek.trans (fE.trans (p1.trans p2))⟩
    rintro σ Hx ⟨⟨o7', o8', o9', o10', rfl⟩, ex⟩
    walk_at "go"
    exact ⟨⟨_, _, _, _, _, _, _, rfl⟩, e1.trans (eb.trans ex)⟩
  rintro σ Hx ⟨⟨o4, o5, o6, o7, o8, o9, o10, rfl⟩, ex⟩
  walk_at "go"
  exact q _
end
theorem mk_txt {K : PySem.W.Frag} {h : Heap} {mg : Str → Option Value} (X : K.In h) (G : h.Ns mainGlobals mg)
    {C_BoughError C_NoText fI_NoText C_NoWood fI_NoWood C_NoTree fI_NoTree C_NoWord fI_NoWord C_TooLong fI_TooLong C_NoReader fI_NoReader C_NoFit fI_NoFit C_NoPrinter fI_NoPrinter C_NoTurner fI_NoTurner C_TooWide fI_TooWide C_NoRow fI_NoRow C_Nought fI_Nought C_NotKept fI_NotKept C_NoBox fI_NoBox f_law_box f_law_take f_law_made f_law_named f_law_kinds f_law_fields f_law_taken f_law : Addr}
    {ocI_NoText kVI_NoText dcI_NoText pmI_NoText cdI_NoText ctI_NoText ocI_NoWood kVI_NoWood dcI_NoWood pmI_NoWood cdI_NoWood ctI_NoWood ocI_NoTree kVI_NoTree dcI_NoTree pmI_NoTree cdI_NoTree ctI_NoTree ocI_NoWord kVI_NoWord dcI_NoWord pmI_NoWord cdI_NoWord ctI_NoWord ocI_TooLong kVI_TooLong dcI_TooLong pmI_TooLong cdI_TooLong ctI_TooLong ocI_NoReader kVI_NoReader dcI_NoReader pmI_NoReader cdI_NoReader ctI_NoReader ocI_NoFit kVI_NoFit dcI_NoFit pmI_NoFit cdI_NoFit ctI_NoFit ocI_NoPrinter kVI_NoPrinter dcI_NoPrinter pmI_NoPrinter cdI_NoPrinter ctI_NoPrinter ocI_NoTurner kVI_NoTurner dcI_NoTurner pmI_NoTurner cdI_NoTurner ctI_NoTurner ocI_TooWide kVI_TooWide dcI_TooWide pmI_TooWide cdI_TooWide ctI_TooWide ocI_NoRow kVI_NoRow dcI_NoRow pmI_NoRow cdI_NoRow ctI_NoRow ocI_Nought kVI_Nought dcI_Nought pmI_Nought cdI_Nought ctI_Nought ocI_NotKept kVI_NotKept dcI_NotKept pmI_NotKept cdI_NotKept ctI_NotKept ocI_NoBox kVI_NoBox dcI_NoBox pmI_NoBox cdI_NoBox ctI_NoBox oc_law_box kV_law_box dc_law_box pm_law_box cd_law_box ct_law_box oc_law_take kV_law_take dc_law_take pm_law_take cd_law_take ct_law_take oc_law_made kV_law_made dc_law_made pm_law_made cd_law_made ct_law_made oc_law_named kV_law_named dc_law_named pm_law_named cd_law_named ct_law_named oc_law_kinds kV_law_kinds dc_law_kinds pm_law_kinds cd_law_kinds ct_law_kinds oc_law_fields kV_law_fields dc_law_fields pm_law_fields cd_law_fields ct_law_fields oc_law_taken kV_law_taken dc_law_taken pm_law_taken cd_law_taken ct_law_taken oc_law kV_law dc_law pm_law cd_law ct_law : Value}
    {odI_NoText anI_NoText odI_NoWood anI_NoWood odI_NoTree anI_NoTree odI_NoWord anI_NoWord odI_TooLong anI_TooLong odI_NoReader anI_NoReader odI_NoFit anI_NoFit odI_NoPrinter anI_NoPrinter odI_NoTurner anI_NoTurner odI_TooWide anI_TooWide odI_NoRow anI_NoRow odI_Nought anI_Nought odI_NotKept anI_NotKept odI_NoBox anI_NoBox od_law_box an_law_box od_law_take an_law_take od_law_made an_law_made od_law_named an_law_named od_law_kinds an_law_kinds od_law_fields an_law_fields od_law_taken an_law_taken od_law an_law : Option Addr}
    {slI_NoText slI_NoWood slI_NoTree slI_NoWord slI_TooLong slI_NoReader slI_NoFit slI_NoPrinter slI_NoTurner slI_TooWide slI_NoRow slI_Nought slI_NotKept slI_NoBox sl_law_box sl_law_take sl_law_made sl_law_named sl_law_kinds sl_law_fields sl_law_taken sl_law : Array (Option Value)}
    {nm_BoughError qn_BoughError : Str} {Nn_BoughError : Addr} {bs_BoughError : List Value} {sn_BoughError : List Str} {sub_BoughError : List Value} {ab_BoughError : Bool} {col_BoughError : Option Bool} {dd_BoughError : Option Addr} {m0_BoughError m1_BoughError m2_BoughError m3_BoughError m5_BoughError : Option Value}
    {nm_NoText qn_NoText : Str} {Nn_NoText : Addr} {bs_NoText : List Value} {sn_NoText : List Str} {sub_NoText : List Value} {ab_NoText : Bool} {col_NoText : Option Bool} {dd_NoText : Option Addr} {m0_NoText m1_NoText m2_NoText m3_NoText m5_NoText : Option Value}
    {nm_NoWood qn_NoWood : Str} {Nn_NoWood : Addr} {bs_NoWood : List Value} {sn_NoWood : List Str} {sub_NoWood : List Value} {ab_NoWood : Bool} {col_NoWood : Option Bool} {dd_NoWood : Option Addr} {m0_NoWood m1_NoWood m2_NoWood m3_NoWood m5_NoWood : Option Value}
    {nm_NoTree qn_NoTree : Str} {Nn_NoTree : Addr} {bs_NoTree : List Value} {sn_NoTree : List Str} {sub_NoTree : List Value} {ab_NoTree : Bool} {col_NoTree : Option Bool} {dd_NoTree : Option Addr} {m0_NoTree m1_NoTree m2_NoTree m3_NoTree m5_NoTree : Option Value}
    {nm_NoWord qn_NoWord : Str} {Nn_NoWord : Addr} {bs_NoWord : List Value} {sn_NoWord : List Str} {sub_NoWord : List Value} {ab_NoWord : Bool} {col_NoWord : Option Bool} {dd_NoWord : Option Addr} {m0_NoWord m1_NoWord m2_NoWord m3_NoWord m5_NoWord : Option Value}
    {nm_TooLong qn_TooLong : Str} {Nn_TooLong : Addr} {bs_TooLong : List Value} {sn_TooLong : List Str} {sub_TooLong : List Value} {ab_TooLong : Bool} {col_TooLong : Option Bool} {dd_TooLong : Option Addr} {m0_TooLong m1_TooLong m2_TooLong m3_TooLong m5_TooLong : Option Value}
    {nm_NoReader qn_NoReader : Str} {Nn_NoReader : Addr} {bs_NoReader : List Value} {sn_NoReader : List Str} {sub_NoReader : List Value} {ab_NoReader : Bool} {col_NoReader : Option Bool} {dd_NoReader : Option Addr} {m0_NoReader m1_NoReader m2_NoReader m3_NoReader m5_NoReader : Option Value}
    {nm_NoFit qn_NoFit : Str} {Nn_NoFit : Addr} {bs_NoFit : List Value} {sn_NoFit : List Str} {sub_NoFit : List Value} {ab_NoFit : Bool} {col_NoFit : Option Bool} {dd_NoFit : Option Addr} {m0_NoFit m1_NoFit m2_NoFit m3_NoFit m5_NoFit : Option Value}
    {nm_NoPrinter qn_NoPrinter : Str} {Nn_NoPrinter : Addr} {bs_NoPrinter : List Value} {sn_NoPrinter : List Str} {sub_NoPrinter : List Value} {ab_NoPrinter : Bool} {col_NoPrinter : Option Bool} {dd_NoPrinter : Option Addr} {m0_NoPrinter m1_NoPrinter m2_NoPrinter m3_NoPrinter m5_NoPrinter : Option Value}
    {nm_NoTurner qn_NoTurner : Str} {Nn_NoTurner : Addr} {bs_NoTurner : List Value} {sn_NoTurner : List Str} {sub_NoTurner : List Value} {ab_NoTurner : Bool} {col_NoTurner : Option Bool} {dd_NoTurner : Option Addr} {m0_NoTurner m1_NoTurner m2_NoTurner m3_NoTurner m5_NoTurner : Option Value}
    {nm_TooWide qn_TooWide : Str} {Nn_TooWide : Addr} {bs_TooWide : List Value} {sn_TooWide : List Str} {sub_TooWide : List Value} {ab_TooWide : Bool} {col_TooWide : Option Bool} {dd_TooWide : Option Addr} {m0_TooWide m1_TooWide m2_TooWide m3_TooWide m5_TooWide : Option Value}
    {nm_NoRow qn_NoRow : Str} {Nn_NoRow : Addr} {bs_NoRow : List Value} {sn_NoRow : List Str} {sub_NoRow : List Value} {ab_NoRow : Bool} {col_NoRow : Option Bool} {dd_NoRow : Option Addr} {m0_NoRow m1_NoRow m2_NoRow m3_NoRow m5_NoRow : Option Value}
    {nm_Nought qn_Nought : Str} {Nn_Nought : Addr} {bs_Nought : List Value} {sn_Nought : List Str} {sub_Nought : List Value} {ab_Nought : Bool} {col_Nought : Option Bool} {dd_Nought : Option Addr} {m0_Nought m1_Nought m2_Nought m3_Nought m5_Nought : Option Value}
    {nm_NotKept qn_NotKept : Str} {Nn_NotKept : Addr} {bs_NotKept : List Value} {sn_NotKept : List Str} {sub_NotKept : List Value} {ab_NotKept : Bool} {col_NotKept : Option Bool} {dd_NotKept : Option Addr} {m0_NotKept m1_NotKept m2_NotKept m3_NotKept m5_NotKept : Option Value}
    {nm_NoBox qn_NoBox : Str} {Nn_NoBox : Addr} {bs_NoBox : List Value} {sn_NoBox : List Str} {sub_NoBox : List Value} {ab_NoBox : Bool} {col_NoBox : Option Bool} {dd_NoBox : Option Addr} {m0_NoBox m1_NoBox m2_NoBox m3_NoBox m5_NoBox : Option Value}
    (ac_BoughError : PySem.W.nsIn K mainGlobals "BoughError" = some (some (.ref C_BoughError)))
    (xl_BoughError : K.lookup C_BoughError = some (excClassObj nm_BoughError qn_BoughError C_BoughError Nn_BoughError bs_BoughError [.type "ValueError", .type "Exception", .type "BaseException", .type "object"] true sn_BoughError sub_BoughError ab_BoughError col_BoughError dd_BoughError m0_BoughError m1_BoughError m2_BoughError m3_BoughError m5_BoughError "ValueError.__new__"))
    (xe_BoughError : PySem.W.subIn K (.ref C_BoughError) (.type "BaseException") = some true)
    (xt_BoughError : PySem.W.typeIn K (.ref C_BoughError) = some (.type "type"))
    (xk_BoughError : PySem.W.keepIn K (.ref C_BoughError) = true)
    (xi_BoughError : PySem.W.isClsIn K C_BoughError = true)
    (xs_BoughError : PySem.W.subIn K (.ref C_BoughError) (.ref C_BoughError) = some true)
    (g1_BoughError : PySem.W.findIn K (.ref C_BoughError) "__getattribute__" = some (some (.builtin "BaseException.__getattribute__")))
    (g2_BoughError : PySem.W.findIn K (.ref C_BoughError) "__getattr__" = some none)
    (g3_BoughError : PySem.W.hasDictIn K C_BoughError = true)
    (g4_BoughError : PySem.W.findIn K (.ref C_BoughError) "__class__" = some (some (.builtin "object.__class__")))
    (g5_BoughError : PySem.W.specialIn K (.builtin "object.__class__") "__get__" = some (some (.builtin "getset_descriptor.__get__")))
    (g6_BoughError : PySem.W.takesIn K (.builtin "object.__class__") = some true)
    (g7_BoughError : PySem.W.mroIn K C_BoughError (.type "object") = some true)
    (h1_BoughError : PySem.W.specialIn K (.ref C_BoughError) "__getattribute__" = some (some (.builtin "type.__getattribute__")))
    (h2_BoughError : PySem.W.readsIn K C_BoughError (.type "type") = true)
    (h3_BoughError : PySem.W.findCls K (.ref C_BoughError) (.type "type") "__init__" = some (.val (.builtin "ValueError.__init__")))
    (ac_NoText : PySem.W.nsIn K mainGlobals "NoText" = some (some (.ref C_NoText)))
    (xl_NoText : K.lookup C_NoText = some (excClassObj nm_NoText qn_NoText C_NoText Nn_NoText bs_NoText [.ref C_BoughError, .type "ValueError", .type "Exception", .type "BaseException", .type "object"] true sn_NoText sub_NoText ab_NoText col_NoText dd_NoText m0_NoText m1_NoText m2_NoText m3_NoText m5_NoText "ValueError.__new__"))
    (xe_NoText : PySem.W.subIn K (.ref C_NoText) (.type "BaseException") = some true)
    (xt_NoText : PySem.W.typeIn K (.ref C_NoText) = some (.type "type"))
    (xk_NoText : PySem.W.keepIn K (.ref C_NoText) = true)
    (xi_NoText : PySem.W.isClsIn K C_NoText = true)
    (xs_NoText : PySem.W.subIn K (.ref C_NoText) (.ref C_NoText) = some true)
    (g1_NoText : PySem.W.findIn K (.ref C_NoText) "__getattribute__" = some (some (.builtin "BaseException.__getattribute__")))
    (g2_NoText : PySem.W.findIn K (.ref C_NoText) "__getattr__" = some none)
    (g3_NoText : PySem.W.hasDictIn K C_NoText = true)
    (g4_NoText : PySem.W.findIn K (.ref C_NoText) "__class__" = some (some (.builtin "object.__class__")))
    (g5_NoText : PySem.W.specialIn K (.builtin "object.__class__") "__get__" = some (some (.builtin "getset_descriptor.__get__")))
    (g6_NoText : PySem.W.takesIn K (.builtin "object.__class__") = some true)
    (g7_NoText : PySem.W.mroIn K C_NoText (.type "object") = some true)
    (iI_NoText : PySem.W.findIn K (.ref C_NoText) "__init__" = some (some (.ref fI_NoText)))
    (tI_NoText : PySem.W.typeIn K (.ref fI_NoText) = some (.type "function"))
    (lI_NoText : K.lookup fI_NoText = some ⟨ocI_NoText, odI_NoText, .func (PySem.W.fnOf "__init__" "NoText.__init__" (defArgs sI_NoText) (defBody sI_NoText) (defScope sI_NoText) .none kVI_NoText dcI_NoText pmI_NoText anI_NoText cdI_NoText ctI_NoText), slI_NoText⟩)
    (cI_NoText : PySem.W.codeIn K cdI_NoText "NoText.__init__" = true)
    (kI_NoText : PySem.W.keepIn K (.ref fI_NoText) = true)
    (sa_NoText : PySem.W.findIn K (.ref C_NoText) "__setattr__" = some (some (.builtin "object.__setattr__")))
    (nf_NoText_row : PySem.W.findIn K (.ref C_NoText) "row" = some none)
    (ac_NoWood : PySem.W.nsIn K mainGlobals "NoWood" = some (some (.ref C_NoWood)))
    (xl_NoWood : K.lookup C_NoWood = some (excClassObj nm_NoWood qn_NoWood C_NoWood Nn_NoWood bs_NoWood [.ref C_BoughError, .type "ValueError", .type "Exception", .type "BaseException", .type "object"] true sn_NoWood sub_NoWood ab_NoWood col_NoWood dd_NoWood m0_NoWood m1_NoWood m2_NoWood m3_NoWood m5_NoWood "ValueError.__new__"))
    (xe_NoWood : PySem.W.subIn K (.ref C_NoWood) (.type "BaseException") = some true)
    (xt_NoWood : PySem.W.typeIn K (.ref C_NoWood) = some (.type "type"))
    (xk_NoWood : PySem.W.keepIn K (.ref C_NoWood) = true)
    (xi_NoWood : PySem.W.isClsIn K C_NoWood = true)
    (xs_NoWood : PySem.W.subIn K (.ref C_NoWood) (.ref C_NoWood) = some true)
    (g1_NoWood : PySem.W.findIn K (.ref C_NoWood) "__getattribute__" = some (some (.builtin "BaseException.__getattribute__")))
    (g2_NoWood : PySem.W.findIn K (.ref C_NoWood) "__getattr__" = some none)
    (g3_NoWood : PySem.W.hasDictIn K C_NoWood = true)
    (g4_NoWood : PySem.W.findIn K (.ref C_NoWood) "__class__" = some (some (.builtin "object.__class__")))
    (g5_NoWood : PySem.W.specialIn K (.builtin "object.__class__") "__get__" = some (some (.builtin "getset_descriptor.__get__")))
    (g6_NoWood : PySem.W.takesIn K (.builtin "object.__class__") = some true)
    (g7_NoWood : PySem.W.mroIn K C_NoWood (.type "object") = some true)
    (iI_NoWood : PySem.W.findIn K (.ref C_NoWood) "__init__" = some (some (.ref fI_NoWood)))
    (tI_NoWood : PySem.W.typeIn K (.ref fI_NoWood) = some (.type "function"))
    (lI_NoWood : K.lookup fI_NoWood = some ⟨ocI_NoWood, odI_NoWood, .func (PySem.W.fnOf "__init__" "NoWood.__init__" (defArgs sI_NoWood) (defBody sI_NoWood) (defScope sI_NoWood) .none kVI_NoWood dcI_NoWood pmI_NoWood anI_NoWood cdI_NoWood ctI_NoWood), slI_NoWood⟩)
    (cI_NoWood : PySem.W.codeIn K cdI_NoWood "NoWood.__init__" = true)
    (kI_NoWood : PySem.W.keepIn K (.ref fI_NoWood) = true)
    (sa_NoWood : PySem.W.findIn K (.ref C_NoWood) "__setattr__" = some (some (.builtin "object.__setattr__")))
    (nf_NoWood_word : PySem.W.findIn K (.ref C_NoWood) "word" = some none)
    (nf_NoWood_name : PySem.W.findIn K (.ref C_NoWood) "name" = some none)
    (ac_NoTree : PySem.W.nsIn K mainGlobals "NoTree" = some (some (.ref C_NoTree)))
    (xl_NoTree : K.lookup C_NoTree = some (excClassObj nm_NoTree qn_NoTree C_NoTree Nn_NoTree bs_NoTree [.ref C_BoughError, .type "ValueError", .type "Exception", .type "BaseException", .type "object"] true sn_NoTree sub_NoTree ab_NoTree col_NoTree dd_NoTree m0_NoTree m1_NoTree m2_NoTree m3_NoTree m5_NoTree "ValueError.__new__"))
    (xe_NoTree : PySem.W.subIn K (.ref C_NoTree) (.type "BaseException") = some true)
    (xt_NoTree : PySem.W.typeIn K (.ref C_NoTree) = some (.type "type"))
    (xk_NoTree : PySem.W.keepIn K (.ref C_NoTree) = true)
    (xi_NoTree : PySem.W.isClsIn K C_NoTree = true)
    (xs_NoTree : PySem.W.subIn K (.ref C_NoTree) (.ref C_NoTree) = some true)
    (g1_NoTree : PySem.W.findIn K (.ref C_NoTree) "__getattribute__" = some (some (.builtin "BaseException.__getattribute__")))
    (g2_NoTree : PySem.W.findIn K (.ref C_NoTree) "__getattr__" = some none)
    (g3_NoTree : PySem.W.hasDictIn K C_NoTree = true)
    (g4_NoTree : PySem.W.findIn K (.ref C_NoTree) "__class__" = some (some (.builtin "object.__class__")))
    (g5_NoTree : PySem.W.specialIn K (.builtin "object.__class__") "__get__" = some (some (.builtin "getset_descriptor.__get__")))
    (g6_NoTree : PySem.W.takesIn K (.builtin "object.__class__") = some true)
    (g7_NoTree : PySem.W.mroIn K C_NoTree (.type "object") = some true)
    (iI_NoTree : PySem.W.findIn K (.ref C_NoTree) "__init__" = some (some (.ref fI_NoTree)))
    (tI_NoTree : PySem.W.typeIn K (.ref fI_NoTree) = some (.type "function"))
    (lI_NoTree : K.lookup fI_NoTree = some ⟨ocI_NoTree, odI_NoTree, .func (PySem.W.fnOf "__init__" "NoTree.__init__" (defArgs sI_NoTree) (defBody sI_NoTree) (defScope sI_NoTree) .none kVI_NoTree dcI_NoTree pmI_NoTree anI_NoTree cdI_NoTree ctI_NoTree), slI_NoTree⟩)
    (cI_NoTree : PySem.W.codeIn K cdI_NoTree "NoTree.__init__" = true)
    (kI_NoTree : PySem.W.keepIn K (.ref fI_NoTree) = true)
    (sa_NoTree : PySem.W.findIn K (.ref C_NoTree) "__setattr__" = some (some (.builtin "object.__setattr__")))
    (nf_NoTree_at : PySem.W.findIn K (.ref C_NoTree) "at" = some none)
    (ac_NoWord : PySem.W.nsIn K mainGlobals "NoWord" = some (some (.ref C_NoWord)))
    (xl_NoWord : K.lookup C_NoWord = some (excClassObj nm_NoWord qn_NoWord C_NoWord Nn_NoWord bs_NoWord [.ref C_BoughError, .type "ValueError", .type "Exception", .type "BaseException", .type "object"] true sn_NoWord sub_NoWord ab_NoWord col_NoWord dd_NoWord m0_NoWord m1_NoWord m2_NoWord m3_NoWord m5_NoWord "ValueError.__new__"))
    (xe_NoWord : PySem.W.subIn K (.ref C_NoWord) (.type "BaseException") = some true)
    (xt_NoWord : PySem.W.typeIn K (.ref C_NoWord) = some (.type "type"))
    (xk_NoWord : PySem.W.keepIn K (.ref C_NoWord) = true)
    (xi_NoWord : PySem.W.isClsIn K C_NoWord = true)
    (xs_NoWord : PySem.W.subIn K (.ref C_NoWord) (.ref C_NoWord) = some true)
    (g1_NoWord : PySem.W.findIn K (.ref C_NoWord) "__getattribute__" = some (some (.builtin "BaseException.__getattribute__")))
    (g2_NoWord : PySem.W.findIn K (.ref C_NoWord) "__getattr__" = some none)
    (g3_NoWord : PySem.W.hasDictIn K C_NoWord = true)
    (g4_NoWord : PySem.W.findIn K (.ref C_NoWord) "__class__" = some (some (.builtin "object.__class__")))
    (g5_NoWord : PySem.W.specialIn K (.builtin "object.__class__") "__get__" = some (some (.builtin "getset_descriptor.__get__")))
    (g6_NoWord : PySem.W.takesIn K (.builtin "object.__class__") = some true)
    (g7_NoWord : PySem.W.mroIn K C_NoWord (.type "object") = some true)
    (iI_NoWord : PySem.W.findIn K (.ref C_NoWord) "__init__" = some (some (.ref fI_NoWord)))
    (tI_NoWord : PySem.W.typeIn K (.ref fI_NoWord) = some (.type "function"))
    (lI_NoWord : K.lookup fI_NoWord = some ⟨ocI_NoWord, odI_NoWord, .func (PySem.W.fnOf "__init__" "NoWord.__init__" (defArgs sI_NoWord) (defBody sI_NoWord) (defScope sI_NoWord) .none kVI_NoWord dcI_NoWord pmI_NoWord anI_NoWord cdI_NoWord ctI_NoWord), slI_NoWord⟩)
    (cI_NoWord : PySem.W.codeIn K cdI_NoWord "NoWord.__init__" = true)
    (kI_NoWord : PySem.W.keepIn K (.ref fI_NoWord) = true)
    (sa_NoWord : PySem.W.findIn K (.ref C_NoWord) "__setattr__" = some (some (.builtin "object.__setattr__")))
    (nf_NoWord_at : PySem.W.findIn K (.ref C_NoWord) "at" = some none)
    (ac_TooLong : PySem.W.nsIn K mainGlobals "TooLong" = some (some (.ref C_TooLong)))
    (xl_TooLong : K.lookup C_TooLong = some (excClassObj nm_TooLong qn_TooLong C_TooLong Nn_TooLong bs_TooLong [.ref C_BoughError, .type "ValueError", .type "Exception", .type "BaseException", .type "object"] true sn_TooLong sub_TooLong ab_TooLong col_TooLong dd_TooLong m0_TooLong m1_TooLong m2_TooLong m3_TooLong m5_TooLong "ValueError.__new__"))
    (xe_TooLong : PySem.W.subIn K (.ref C_TooLong) (.type "BaseException") = some true)
    (xt_TooLong : PySem.W.typeIn K (.ref C_TooLong) = some (.type "type"))
    (xk_TooLong : PySem.W.keepIn K (.ref C_TooLong) = true)
    (xi_TooLong : PySem.W.isClsIn K C_TooLong = true)
    (xs_TooLong : PySem.W.subIn K (.ref C_TooLong) (.ref C_TooLong) = some true)
    (g1_TooLong : PySem.W.findIn K (.ref C_TooLong) "__getattribute__" = some (some (.builtin "BaseException.__getattribute__")))
    (g2_TooLong : PySem.W.findIn K (.ref C_TooLong) "__getattr__" = some none)
    (g3_TooLong : PySem.W.hasDictIn K C_TooLong = true)
    (g4_TooLong : PySem.W.findIn K (.ref C_TooLong) "__class__" = some (some (.builtin "object.__class__")))
    (g5_TooLong : PySem.W.specialIn K (.builtin "object.__class__") "__get__" = some (some (.builtin "getset_descriptor.__get__")))
    (g6_TooLong : PySem.W.takesIn K (.builtin "object.__class__") = some true)
    (g7_TooLong : PySem.W.mroIn K C_TooLong (.type "object") = some true)
    (iI_TooLong : PySem.W.findIn K (.ref C_TooLong) "__init__" = some (some (.ref fI_TooLong)))
    (tI_TooLong : PySem.W.typeIn K (.ref fI_TooLong) = some (.type "function"))
    (lI_TooLong : K.lookup fI_TooLong = some ⟨ocI_TooLong, odI_TooLong, .func (PySem.W.fnOf "__init__" "TooLong.__init__" (defArgs sI_TooLong) (defBody sI_TooLong) (defScope sI_TooLong) .none kVI_TooLong dcI_TooLong pmI_TooLong anI_TooLong cdI_TooLong ctI_TooLong), slI_TooLong⟩)
    (cI_TooLong : PySem.W.codeIn K cdI_TooLong "TooLong.__init__" = true)
    (kI_TooLong : PySem.W.keepIn K (.ref fI_TooLong) = true)
    (sa_TooLong : PySem.W.findIn K (.ref C_TooLong) "__setattr__" = some (some (.builtin "object.__setattr__")))
    (nf_TooLong_most : PySem.W.findIn K (.ref C_TooLong) "most" = some none)
    (ac_NoReader : PySem.W.nsIn K mainGlobals "NoReader" = some (some (.ref C_NoReader)))
    (xl_NoReader : K.lookup C_NoReader = some (excClassObj nm_NoReader qn_NoReader C_NoReader Nn_NoReader bs_NoReader [.ref C_BoughError, .type "ValueError", .type "Exception", .type "BaseException", .type "object"] true sn_NoReader sub_NoReader ab_NoReader col_NoReader dd_NoReader m0_NoReader m1_NoReader m2_NoReader m3_NoReader m5_NoReader "ValueError.__new__"))
    (xe_NoReader : PySem.W.subIn K (.ref C_NoReader) (.type "BaseException") = some true)
    (xt_NoReader : PySem.W.typeIn K (.ref C_NoReader) = some (.type "type"))
    (xk_NoReader : PySem.W.keepIn K (.ref C_NoReader) = true)
    (xi_NoReader : PySem.W.isClsIn K C_NoReader = true)
    (xs_NoReader : PySem.W.subIn K (.ref C_NoReader) (.ref C_NoReader) = some true)
    (g1_NoReader : PySem.W.findIn K (.ref C_NoReader) "__getattribute__" = some (some (.builtin "BaseException.__getattribute__")))
    (g2_NoReader : PySem.W.findIn K (.ref C_NoReader) "__getattr__" = some none)
    (g3_NoReader : PySem.W.hasDictIn K C_NoReader = true)
    (g4_NoReader : PySem.W.findIn K (.ref C_NoReader) "__class__" = some (some (.builtin "object.__class__")))
    (g5_NoReader : PySem.W.specialIn K (.builtin "object.__class__") "__get__" = some (some (.builtin "getset_descriptor.__get__")))
    (g6_NoReader : PySem.W.takesIn K (.builtin "object.__class__") = some true)
    (g7_NoReader : PySem.W.mroIn K C_NoReader (.type "object") = some true)
    (iI_NoReader : PySem.W.findIn K (.ref C_NoReader) "__init__" = some (some (.ref fI_NoReader)))
    (tI_NoReader : PySem.W.typeIn K (.ref fI_NoReader) = some (.type "function"))
    (lI_NoReader : K.lookup fI_NoReader = some ⟨ocI_NoReader, odI_NoReader, .func (PySem.W.fnOf "__init__" "NoReader.__init__" (defArgs sI_NoReader) (defBody sI_NoReader) (defScope sI_NoReader) .none kVI_NoReader dcI_NoReader pmI_NoReader anI_NoReader cdI_NoReader ctI_NoReader), slI_NoReader⟩)
    (cI_NoReader : PySem.W.codeIn K cdI_NoReader "NoReader.__init__" = true)
    (kI_NoReader : PySem.W.keepIn K (.ref fI_NoReader) = true)
    (sa_NoReader : PySem.W.findIn K (.ref C_NoReader) "__setattr__" = some (some (.builtin "object.__setattr__")))
    (nf_NoReader_word : PySem.W.findIn K (.ref C_NoReader) "word" = some none)
    (nf_NoReader_maker : PySem.W.findIn K (.ref C_NoReader) "maker" = some none)
    (ac_NoFit : PySem.W.nsIn K mainGlobals "NoFit" = some (some (.ref C_NoFit)))
    (xl_NoFit : K.lookup C_NoFit = some (excClassObj nm_NoFit qn_NoFit C_NoFit Nn_NoFit bs_NoFit [.ref C_BoughError, .type "ValueError", .type "Exception", .type "BaseException", .type "object"] true sn_NoFit sub_NoFit ab_NoFit col_NoFit dd_NoFit m0_NoFit m1_NoFit m2_NoFit m3_NoFit m5_NoFit "ValueError.__new__"))
    (xe_NoFit : PySem.W.subIn K (.ref C_NoFit) (.type "BaseException") = some true)
    (xt_NoFit : PySem.W.typeIn K (.ref C_NoFit) = some (.type "type"))
    (xk_NoFit : PySem.W.keepIn K (.ref C_NoFit) = true)
    (xi_NoFit : PySem.W.isClsIn K C_NoFit = true)
    (xs_NoFit : PySem.W.subIn K (.ref C_NoFit) (.ref C_NoFit) = some true)
    (g1_NoFit : PySem.W.findIn K (.ref C_NoFit) "__getattribute__" = some (some (.builtin "BaseException.__getattribute__")))
    (g2_NoFit : PySem.W.findIn K (.ref C_NoFit) "__getattr__" = some none)
    (g3_NoFit : PySem.W.hasDictIn K C_NoFit = true)
    (g4_NoFit : PySem.W.findIn K (.ref C_NoFit) "__class__" = some (some (.builtin "object.__class__")))
    (g5_NoFit : PySem.W.specialIn K (.builtin "object.__class__") "__get__" = some (some (.builtin "getset_descriptor.__get__")))
    (g6_NoFit : PySem.W.takesIn K (.builtin "object.__class__") = some true)
    (g7_NoFit : PySem.W.mroIn K C_NoFit (.type "object") = some true)
    (iI_NoFit : PySem.W.findIn K (.ref C_NoFit) "__init__" = some (some (.ref fI_NoFit)))
    (tI_NoFit : PySem.W.typeIn K (.ref fI_NoFit) = some (.type "function"))
    (lI_NoFit : K.lookup fI_NoFit = some ⟨ocI_NoFit, odI_NoFit, .func (PySem.W.fnOf "__init__" "NoFit.__init__" (defArgs sI_NoFit) (defBody sI_NoFit) (defScope sI_NoFit) .none kVI_NoFit dcI_NoFit pmI_NoFit anI_NoFit cdI_NoFit ctI_NoFit), slI_NoFit⟩)
    (cI_NoFit : PySem.W.codeIn K cdI_NoFit "NoFit.__init__" = true)
    (kI_NoFit : PySem.W.keepIn K (.ref fI_NoFit) = true)
    (sa_NoFit : PySem.W.findIn K (.ref C_NoFit) "__setattr__" = some (some (.builtin "object.__setattr__")))
    (nf_NoFit_at : PySem.W.findIn K (.ref C_NoFit) "at" = some none)
    (ac_NoPrinter : PySem.W.nsIn K mainGlobals "NoPrinter" = some (some (.ref C_NoPrinter)))
    (xl_NoPrinter : K.lookup C_NoPrinter = some (excClassObj nm_NoPrinter qn_NoPrinter C_NoPrinter Nn_NoPrinter bs_NoPrinter [.ref C_BoughError, .type "ValueError", .type "Exception", .type "BaseException", .type "object"] true sn_NoPrinter sub_NoPrinter ab_NoPrinter col_NoPrinter dd_NoPrinter m0_NoPrinter m1_NoPrinter m2_NoPrinter m3_NoPrinter m5_NoPrinter "ValueError.__new__"))
    (xe_NoPrinter : PySem.W.subIn K (.ref C_NoPrinter) (.type "BaseException") = some true)
    (xt_NoPrinter : PySem.W.typeIn K (.ref C_NoPrinter) = some (.type "type"))
    (xk_NoPrinter : PySem.W.keepIn K (.ref C_NoPrinter) = true)
    (xi_NoPrinter : PySem.W.isClsIn K C_NoPrinter = true)
    (xs_NoPrinter : PySem.W.subIn K (.ref C_NoPrinter) (.ref C_NoPrinter) = some true)
    (g1_NoPrinter : PySem.W.findIn K (.ref C_NoPrinter) "__getattribute__" = some (some (.builtin "BaseException.__getattribute__")))
    (g2_NoPrinter : PySem.W.findIn K (.ref C_NoPrinter) "__getattr__" = some none)
    (g3_NoPrinter : PySem.W.hasDictIn K C_NoPrinter = true)
    (g4_NoPrinter : PySem.W.findIn K (.ref C_NoPrinter) "__class__" = some (some (.builtin "object.__class__")))
    (g5_NoPrinter : PySem.W.specialIn K (.builtin "object.__class__") "__get__" = some (some (.builtin "getset_descriptor.__get__")))
    (g6_NoPrinter : PySem.W.takesIn K (.builtin "object.__class__") = some true)
    (g7_NoPrinter : PySem.W.mroIn K C_NoPrinter (.type "object") = some true)
    (iI_NoPrinter : PySem.W.findIn K (.ref C_NoPrinter) "__init__" = some (some (.ref fI_NoPrinter)))
    (tI_NoPrinter : PySem.W.typeIn K (.ref fI_NoPrinter) = some (.type "function"))
    (lI_NoPrinter : K.lookup fI_NoPrinter = some ⟨ocI_NoPrinter, odI_NoPrinter, .func (PySem.W.fnOf "__init__" "NoPrinter.__init__" (defArgs sI_NoPrinter) (defBody sI_NoPrinter) (defScope sI_NoPrinter) .none kVI_NoPrinter dcI_NoPrinter pmI_NoPrinter anI_NoPrinter cdI_NoPrinter ctI_NoPrinter), slI_NoPrinter⟩)
    (cI_NoPrinter : PySem.W.codeIn K cdI_NoPrinter "NoPrinter.__init__" = true)
    (kI_NoPrinter : PySem.W.keepIn K (.ref fI_NoPrinter) = true)
    (sa_NoPrinter : PySem.W.findIn K (.ref C_NoPrinter) "__setattr__" = some (some (.builtin "object.__setattr__")))
    (nf_NoPrinter_word : PySem.W.findIn K (.ref C_NoPrinter) "word" = some none)
    (nf_NoPrinter_maker : PySem.W.findIn K (.ref C_NoPrinter) "maker" = some none)
    (ac_NoTurner : PySem.W.nsIn K mainGlobals "NoTurner" = some (some (.ref C_NoTurner)))
    (xl_NoTurner : K.lookup C_NoTurner = some (excClassObj nm_NoTurner qn_NoTurner C_NoTurner Nn_NoTurner bs_NoTurner [.ref C_BoughError, .type "ValueError", .type "Exception", .type "BaseException", .type "object"] true sn_NoTurner sub_NoTurner ab_NoTurner col_NoTurner dd_NoTurner m0_NoTurner m1_NoTurner m2_NoTurner m3_NoTurner m5_NoTurner "ValueError.__new__"))
    (xe_NoTurner : PySem.W.subIn K (.ref C_NoTurner) (.type "BaseException") = some true)
    (xt_NoTurner : PySem.W.typeIn K (.ref C_NoTurner) = some (.type "type"))
    (xk_NoTurner : PySem.W.keepIn K (.ref C_NoTurner) = true)
    (xi_NoTurner : PySem.W.isClsIn K C_NoTurner = true)
    (xs_NoTurner : PySem.W.subIn K (.ref C_NoTurner) (.ref C_NoTurner) = some true)
    (g1_NoTurner : PySem.W.findIn K (.ref C_NoTurner) "__getattribute__" = some (some (.builtin "BaseException.__getattribute__")))
    (g2_NoTurner : PySem.W.findIn K (.ref C_NoTurner) "__getattr__" = some none)
    (g3_NoTurner : PySem.W.hasDictIn K C_NoTurner = true)
    (g4_NoTurner : PySem.W.findIn K (.ref C_NoTurner) "__class__" = some (some (.builtin "object.__class__")))
    (g5_NoTurner : PySem.W.specialIn K (.builtin "object.__class__") "__get__" = some (some (.builtin "getset_descriptor.__get__")))
    (g6_NoTurner : PySem.W.takesIn K (.builtin "object.__class__") = some true)
    (g7_NoTurner : PySem.W.mroIn K C_NoTurner (.type "object") = some true)
    (iI_NoTurner : PySem.W.findIn K (.ref C_NoTurner) "__init__" = some (some (.ref fI_NoTurner)))
    (tI_NoTurner : PySem.W.typeIn K (.ref fI_NoTurner) = some (.type "function"))
    (lI_NoTurner : K.lookup fI_NoTurner = some ⟨ocI_NoTurner, odI_NoTurner, .func (PySem.W.fnOf "__init__" "NoTurner.__init__" (defArgs sI_NoTurner) (defBody sI_NoTurner) (defScope sI_NoTurner) .none kVI_NoTurner dcI_NoTurner pmI_NoTurner anI_NoTurner cdI_NoTurner ctI_NoTurner), slI_NoTurner⟩)
    (cI_NoTurner : PySem.W.codeIn K cdI_NoTurner "NoTurner.__init__" = true)
    (kI_NoTurner : PySem.W.keepIn K (.ref fI_NoTurner) = true)
    (sa_NoTurner : PySem.W.findIn K (.ref C_NoTurner) "__setattr__" = some (some (.builtin "object.__setattr__")))
    (nf_NoTurner_word : PySem.W.findIn K (.ref C_NoTurner) "word" = some none)
    (nf_NoTurner_maker : PySem.W.findIn K (.ref C_NoTurner) "maker" = some none)
    (ac_TooWide : PySem.W.nsIn K mainGlobals "TooWide" = some (some (.ref C_TooWide)))
    (xl_TooWide : K.lookup C_TooWide = some (excClassObj nm_TooWide qn_TooWide C_TooWide Nn_TooWide bs_TooWide [.ref C_BoughError, .type "ValueError", .type "Exception", .type "BaseException", .type "object"] true sn_TooWide sub_TooWide ab_TooWide col_TooWide dd_TooWide m0_TooWide m1_TooWide m2_TooWide m3_TooWide m5_TooWide "ValueError.__new__"))
    (xe_TooWide : PySem.W.subIn K (.ref C_TooWide) (.type "BaseException") = some true)
    (xt_TooWide : PySem.W.typeIn K (.ref C_TooWide) = some (.type "type"))
    (xk_TooWide : PySem.W.keepIn K (.ref C_TooWide) = true)
    (xi_TooWide : PySem.W.isClsIn K C_TooWide = true)
    (xs_TooWide : PySem.W.subIn K (.ref C_TooWide) (.ref C_TooWide) = some true)
    (g1_TooWide : PySem.W.findIn K (.ref C_TooWide) "__getattribute__" = some (some (.builtin "BaseException.__getattribute__")))
    (g2_TooWide : PySem.W.findIn K (.ref C_TooWide) "__getattr__" = some none)
    (g3_TooWide : PySem.W.hasDictIn K C_TooWide = true)
    (g4_TooWide : PySem.W.findIn K (.ref C_TooWide) "__class__" = some (some (.builtin "object.__class__")))
    (g5_TooWide : PySem.W.specialIn K (.builtin "object.__class__") "__get__" = some (some (.builtin "getset_descriptor.__get__")))
    (g6_TooWide : PySem.W.takesIn K (.builtin "object.__class__") = some true)
    (g7_TooWide : PySem.W.mroIn K C_TooWide (.type "object") = some true)
    (iI_TooWide : PySem.W.findIn K (.ref C_TooWide) "__init__" = some (some (.ref fI_TooWide)))
    (tI_TooWide : PySem.W.typeIn K (.ref fI_TooWide) = some (.type "function"))
    (lI_TooWide : K.lookup fI_TooWide = some ⟨ocI_TooWide, odI_TooWide, .func (PySem.W.fnOf "__init__" "TooWide.__init__" (defArgs sI_TooWide) (defBody sI_TooWide) (defScope sI_TooWide) .none kVI_TooWide dcI_TooWide pmI_TooWide anI_TooWide cdI_TooWide ctI_TooWide), slI_TooWide⟩)
    (cI_TooWide : PySem.W.codeIn K cdI_TooWide "TooWide.__init__" = true)
    (kI_TooWide : PySem.W.keepIn K (.ref fI_TooWide) = true)
    (sa_TooWide : PySem.W.findIn K (.ref C_TooWide) "__setattr__" = some (some (.builtin "object.__setattr__")))
    (nf_TooWide_rooms : PySem.W.findIn K (.ref C_TooWide) "rooms" = some none)
    (ac_NoRow : PySem.W.nsIn K mainGlobals "NoRow" = some (some (.ref C_NoRow)))
    (xl_NoRow : K.lookup C_NoRow = some (excClassObj nm_NoRow qn_NoRow C_NoRow Nn_NoRow bs_NoRow [.ref C_BoughError, .type "ValueError", .type "Exception", .type "BaseException", .type "object"] true sn_NoRow sub_NoRow ab_NoRow col_NoRow dd_NoRow m0_NoRow m1_NoRow m2_NoRow m3_NoRow m5_NoRow "ValueError.__new__"))
    (xe_NoRow : PySem.W.subIn K (.ref C_NoRow) (.type "BaseException") = some true)
    (xt_NoRow : PySem.W.typeIn K (.ref C_NoRow) = some (.type "type"))
    (xk_NoRow : PySem.W.keepIn K (.ref C_NoRow) = true)
    (xi_NoRow : PySem.W.isClsIn K C_NoRow = true)
    (xs_NoRow : PySem.W.subIn K (.ref C_NoRow) (.ref C_NoRow) = some true)
    (g1_NoRow : PySem.W.findIn K (.ref C_NoRow) "__getattribute__" = some (some (.builtin "BaseException.__getattribute__")))
    (g2_NoRow : PySem.W.findIn K (.ref C_NoRow) "__getattr__" = some none)
    (g3_NoRow : PySem.W.hasDictIn K C_NoRow = true)
    (g4_NoRow : PySem.W.findIn K (.ref C_NoRow) "__class__" = some (some (.builtin "object.__class__")))
    (g5_NoRow : PySem.W.specialIn K (.builtin "object.__class__") "__get__" = some (some (.builtin "getset_descriptor.__get__")))
    (g6_NoRow : PySem.W.takesIn K (.builtin "object.__class__") = some true)
    (g7_NoRow : PySem.W.mroIn K C_NoRow (.type "object") = some true)
    (iI_NoRow : PySem.W.findIn K (.ref C_NoRow) "__init__" = some (some (.ref fI_NoRow)))
    (tI_NoRow : PySem.W.typeIn K (.ref fI_NoRow) = some (.type "function"))
    (lI_NoRow : K.lookup fI_NoRow = some ⟨ocI_NoRow, odI_NoRow, .func (PySem.W.fnOf "__init__" "NoRow.__init__" (defArgs sI_NoRow) (defBody sI_NoRow) (defScope sI_NoRow) .none kVI_NoRow dcI_NoRow pmI_NoRow anI_NoRow cdI_NoRow ctI_NoRow), slI_NoRow⟩)
    (cI_NoRow : PySem.W.codeIn K cdI_NoRow "NoRow.__init__" = true)
    (kI_NoRow : PySem.W.keepIn K (.ref fI_NoRow) = true)
    (sa_NoRow : PySem.W.findIn K (.ref C_NoRow) "__setattr__" = some (some (.builtin "object.__setattr__")))
    (ac_Nought : PySem.W.nsIn K mainGlobals "Nought" = some (some (.ref C_Nought)))
    (xl_Nought : K.lookup C_Nought = some (excClassObj nm_Nought qn_Nought C_Nought Nn_Nought bs_Nought [.type "ZeroDivisionError", .type "ArithmeticError", .type "Exception", .type "BaseException", .type "object"] true sn_Nought sub_Nought ab_Nought col_Nought dd_Nought m0_Nought m1_Nought m2_Nought m3_Nought m5_Nought "ZeroDivisionError.__new__"))
    (xe_Nought : PySem.W.subIn K (.ref C_Nought) (.type "BaseException") = some true)
    (xt_Nought : PySem.W.typeIn K (.ref C_Nought) = some (.type "type"))
    (xk_Nought : PySem.W.keepIn K (.ref C_Nought) = true)
    (xi_Nought : PySem.W.isClsIn K C_Nought = true)
    (xs_Nought : PySem.W.subIn K (.ref C_Nought) (.ref C_Nought) = some true)
    (g1_Nought : PySem.W.findIn K (.ref C_Nought) "__getattribute__" = some (some (.builtin "BaseException.__getattribute__")))
    (g2_Nought : PySem.W.findIn K (.ref C_Nought) "__getattr__" = some none)
    (g3_Nought : PySem.W.hasDictIn K C_Nought = true)
    (g4_Nought : PySem.W.findIn K (.ref C_Nought) "__class__" = some (some (.builtin "object.__class__")))
    (g5_Nought : PySem.W.specialIn K (.builtin "object.__class__") "__get__" = some (some (.builtin "getset_descriptor.__get__")))
    (g6_Nought : PySem.W.takesIn K (.builtin "object.__class__") = some true)
    (g7_Nought : PySem.W.mroIn K C_Nought (.type "object") = some true)
    (iI_Nought : PySem.W.findIn K (.ref C_Nought) "__init__" = some (some (.ref fI_Nought)))
    (tI_Nought : PySem.W.typeIn K (.ref fI_Nought) = some (.type "function"))
    (lI_Nought : K.lookup fI_Nought = some ⟨ocI_Nought, odI_Nought, .func (PySem.W.fnOf "__init__" "Nought.__init__" (defArgs sI_Nought) (defBody sI_Nought) (defScope sI_Nought) .none kVI_Nought dcI_Nought pmI_Nought anI_Nought cdI_Nought ctI_Nought), slI_Nought⟩)
    (cI_Nought : PySem.W.codeIn K cdI_Nought "Nought.__init__" = true)
    (kI_Nought : PySem.W.keepIn K (.ref fI_Nought) = true)
    (sa_Nought : PySem.W.findIn K (.ref C_Nought) "__setattr__" = some (some (.builtin "object.__setattr__")))
    (ac_NotKept : PySem.W.nsIn K mainGlobals "NotKept" = some (some (.ref C_NotKept)))
    (xl_NotKept : K.lookup C_NotKept = some (excClassObj nm_NotKept qn_NotKept C_NotKept Nn_NotKept bs_NotKept [.type "KeyError", .type "LookupError", .type "Exception", .type "BaseException", .type "object"] true sn_NotKept sub_NotKept ab_NotKept col_NotKept dd_NotKept m0_NotKept m1_NotKept m2_NotKept m3_NotKept m5_NotKept "LookupError.__new__"))
    (xe_NotKept : PySem.W.subIn K (.ref C_NotKept) (.type "BaseException") = some true)
    (xt_NotKept : PySem.W.typeIn K (.ref C_NotKept) = some (.type "type"))
    (xk_NotKept : PySem.W.keepIn K (.ref C_NotKept) = true)
    (xi_NotKept : PySem.W.isClsIn K C_NotKept = true)
    (xs_NotKept : PySem.W.subIn K (.ref C_NotKept) (.ref C_NotKept) = some true)
    (g1_NotKept : PySem.W.findIn K (.ref C_NotKept) "__getattribute__" = some (some (.builtin "BaseException.__getattribute__")))
    (g2_NotKept : PySem.W.findIn K (.ref C_NotKept) "__getattr__" = some none)
    (g3_NotKept : PySem.W.hasDictIn K C_NotKept = true)
    (g4_NotKept : PySem.W.findIn K (.ref C_NotKept) "__class__" = some (some (.builtin "object.__class__")))
    (g5_NotKept : PySem.W.specialIn K (.builtin "object.__class__") "__get__" = some (some (.builtin "getset_descriptor.__get__")))
    (g6_NotKept : PySem.W.takesIn K (.builtin "object.__class__") = some true)
    (g7_NotKept : PySem.W.mroIn K C_NotKept (.type "object") = some true)
    (iI_NotKept : PySem.W.findIn K (.ref C_NotKept) "__init__" = some (some (.ref fI_NotKept)))
    (tI_NotKept : PySem.W.typeIn K (.ref fI_NotKept) = some (.type "function"))
    (lI_NotKept : K.lookup fI_NotKept = some ⟨ocI_NotKept, odI_NotKept, .func (PySem.W.fnOf "__init__" "NotKept.__init__" (defArgs sI_NotKept) (defBody sI_NotKept) (defScope sI_NotKept) .none kVI_NotKept dcI_NotKept pmI_NotKept anI_NotKept cdI_NotKept ctI_NotKept), slI_NotKept⟩)
    (cI_NotKept : PySem.W.codeIn K cdI_NotKept "NotKept.__init__" = true)
    (kI_NotKept : PySem.W.keepIn K (.ref fI_NotKept) = true)
    (sa_NotKept : PySem.W.findIn K (.ref C_NotKept) "__setattr__" = some (some (.builtin "object.__setattr__")))
    (nf_NotKept_name : PySem.W.findIn K (.ref C_NotKept) "name" = some none)
    (ac_NoBox : PySem.W.nsIn K mainGlobals "NoBox" = some (some (.ref C_NoBox)))
    (xl_NoBox : K.lookup C_NoBox = some (excClassObj nm_NoBox qn_NoBox C_NoBox Nn_NoBox bs_NoBox [.type "IndexError", .type "LookupError", .type "Exception", .type "BaseException", .type "object"] true sn_NoBox sub_NoBox ab_NoBox col_NoBox dd_NoBox m0_NoBox m1_NoBox m2_NoBox m3_NoBox m5_NoBox "IndexError.__new__"))
    (xe_NoBox : PySem.W.subIn K (.ref C_NoBox) (.type "BaseException") = some true)
    (xt_NoBox : PySem.W.typeIn K (.ref C_NoBox) = some (.type "type"))
    (xk_NoBox : PySem.W.keepIn K (.ref C_NoBox) = true)
    (xi_NoBox : PySem.W.isClsIn K C_NoBox = true)
    (xs_NoBox : PySem.W.subIn K (.ref C_NoBox) (.ref C_NoBox) = some true)
    (g1_NoBox : PySem.W.findIn K (.ref C_NoBox) "__getattribute__" = some (some (.builtin "BaseException.__getattribute__")))
    (g2_NoBox : PySem.W.findIn K (.ref C_NoBox) "__getattr__" = some none)
    (g3_NoBox : PySem.W.hasDictIn K C_NoBox = true)
    (g4_NoBox : PySem.W.findIn K (.ref C_NoBox) "__class__" = some (some (.builtin "object.__class__")))
    (g5_NoBox : PySem.W.specialIn K (.builtin "object.__class__") "__get__" = some (some (.builtin "getset_descriptor.__get__")))
    (g6_NoBox : PySem.W.takesIn K (.builtin "object.__class__") = some true)
    (g7_NoBox : PySem.W.mroIn K C_NoBox (.type "object") = some true)
    (iI_NoBox : PySem.W.findIn K (.ref C_NoBox) "__init__" = some (some (.ref fI_NoBox)))
    (tI_NoBox : PySem.W.typeIn K (.ref fI_NoBox) = some (.type "function"))
    (lI_NoBox : K.lookup fI_NoBox = some ⟨ocI_NoBox, odI_NoBox, .func (PySem.W.fnOf "__init__" "NoBox.__init__" (defArgs sI_NoBox) (defBody sI_NoBox) (defScope sI_NoBox) .none kVI_NoBox dcI_NoBox pmI_NoBox anI_NoBox cdI_NoBox ctI_NoBox), slI_NoBox⟩)
    (cI_NoBox : PySem.W.codeIn K cdI_NoBox "NoBox.__init__" = true)
    (kI_NoBox : PySem.W.keepIn K (.ref fI_NoBox) = true)
    (sa_NoBox : PySem.W.findIn K (.ref C_NoBox) "__setattr__" = some (some (.builtin "object.__setattr__")))
    (nf_NoBox_box : PySem.W.findIn K (.ref C_NoBox) "box" = some none)
    (vb_IndexError : PySem.W.findCls K (.type "IndexError") (.type "type") "__init__" = some (.val (.builtin "IndexError.__init__")))
    (vb_KeyError : PySem.W.findCls K (.type "KeyError") (.type "type") "__init__" = some (.val (.builtin "KeyError.__init__")))
    (vb_ValueError : PySem.W.findCls K (.type "ValueError") (.type "type") "__init__" = some (.val (.builtin "ValueError.__init__")))
    (vb_ZeroDivisionError : PySem.W.findCls K (.type "ZeroDivisionError") (.type "type") "__init__" = some (.val (.builtin "ZeroDivisionError.__init__")))
    (ysk_0_1 : PySem.W.subIn K (.ref C_NoText) (.ref C_NoWood) = some false)
    (ysk_0_2 : PySem.W.subIn K (.ref C_NoText) (.ref C_NoTree) = some false)
    (ysk_0_3 : PySem.W.subIn K (.ref C_NoText) (.ref C_NoWord) = some false)
    (ysk_0_4 : PySem.W.subIn K (.ref C_NoText) (.ref C_TooLong) = some false)
    (ysk_0_5 : PySem.W.subIn K (.ref C_NoText) (.ref C_NoReader) = some false)
    (ysk_0_6 : PySem.W.subIn K (.ref C_NoText) (.ref C_NoFit) = some false)
    (ysk_0_7 : PySem.W.subIn K (.ref C_NoText) (.ref C_NoPrinter) = some false)
    (ysk_0_8 : PySem.W.subIn K (.ref C_NoText) (.ref C_NoTurner) = some false)
    (ysk_0_9 : PySem.W.subIn K (.ref C_NoText) (.ref C_TooWide) = some false)
    (ysk_0_10 : PySem.W.subIn K (.ref C_NoText) (.ref C_NoRow) = some false)
    (ysk_0_11 : PySem.W.subIn K (.ref C_NoText) (.ref C_Nought) = some false)
    (ysk_0_12 : PySem.W.subIn K (.ref C_NoText) (.ref C_NotKept) = some false)
    (ysk_0_13 : PySem.W.subIn K (.ref C_NoText) (.ref C_NoBox) = some false)
    (ysk_1_0 : PySem.W.subIn K (.ref C_NoWood) (.ref C_NoText) = some false)
    (ysk_1_2 : PySem.W.subIn K (.ref C_NoWood) (.ref C_NoTree) = some false)
    (ysk_1_3 : PySem.W.subIn K (.ref C_NoWood) (.ref C_NoWord) = some false)
    (ysk_1_4 : PySem.W.subIn K (.ref C_NoWood) (.ref C_TooLong) = some false)
    (ysk_1_5 : PySem.W.subIn K (.ref C_NoWood) (.ref C_NoReader) = some false)
    (ysk_1_6 : PySem.W.subIn K (.ref C_NoWood) (.ref C_NoFit) = some false)
    (ysk_1_7 : PySem.W.subIn K (.ref C_NoWood) (.ref C_NoPrinter) = some false)
    (ysk_1_8 : PySem.W.subIn K (.ref C_NoWood) (.ref C_NoTurner) = some false)
    (ysk_1_9 : PySem.W.subIn K (.ref C_NoWood) (.ref C_TooWide) = some false)
    (ysk_1_10 : PySem.W.subIn K (.ref C_NoWood) (.ref C_NoRow) = some false)
    (ysk_1_11 : PySem.W.subIn K (.ref C_NoWood) (.ref C_Nought) = some false)
    (ysk_1_12 : PySem.W.subIn K (.ref C_NoWood) (.ref C_NotKept) = some false)
    (ysk_1_13 : PySem.W.subIn K (.ref C_NoWood) (.ref C_NoBox) = some false)
    (ysk_2_0 : PySem.W.subIn K (.ref C_NoTree) (.ref C_NoText) = some false)
    (ysk_2_1 : PySem.W.subIn K (.ref C_NoTree) (.ref C_NoWood) = some false)
    (ysk_2_3 : PySem.W.subIn K (.ref C_NoTree) (.ref C_NoWord) = some false)
    (ysk_2_4 : PySem.W.subIn K (.ref C_NoTree) (.ref C_TooLong) = some false)
    (ysk_2_5 : PySem.W.subIn K (.ref C_NoTree) (.ref C_NoReader) = some false)
    (ysk_2_6 : PySem.W.subIn K (.ref C_NoTree) (.ref C_NoFit) = some false)
    (ysk_2_7 : PySem.W.subIn K (.ref C_NoTree) (.ref C_NoPrinter) = some false)
    (ysk_2_8 : PySem.W.subIn K (.ref C_NoTree) (.ref C_NoTurner) = some false)
    (ysk_2_9 : PySem.W.subIn K (.ref C_NoTree) (.ref C_TooWide) = some false)
    (ysk_2_10 : PySem.W.subIn K (.ref C_NoTree) (.ref C_NoRow) = some false)
    (ysk_2_11 : PySem.W.subIn K (.ref C_NoTree) (.ref C_Nought) = some false)
    (ysk_2_12 : PySem.W.subIn K (.ref C_NoTree) (.ref C_NotKept) = some false)
    (ysk_2_13 : PySem.W.subIn K (.ref C_NoTree) (.ref C_NoBox) = some false)
    (ysk_3_0 : PySem.W.subIn K (.ref C_NoWord) (.ref C_NoText) = some false)
    (ysk_3_1 : PySem.W.subIn K (.ref C_NoWord) (.ref C_NoWood) = some false)
    (ysk_3_2 : PySem.W.subIn K (.ref C_NoWord) (.ref C_NoTree) = some false)
    (ysk_3_4 : PySem.W.subIn K (.ref C_NoWord) (.ref C_TooLong) = some false)
    (ysk_3_5 : PySem.W.subIn K (.ref C_NoWord) (.ref C_NoReader) = some false)
    (ysk_3_6 : PySem.W.subIn K (.ref C_NoWord) (.ref C_NoFit) = some false)
    (ysk_3_7 : PySem.W.subIn K (.ref C_NoWord) (.ref C_NoPrinter) = some false)
    (ysk_3_8 : PySem.W.subIn K (.ref C_NoWord) (.ref C_NoTurner) = some false)
    (ysk_3_9 : PySem.W.subIn K (.ref C_NoWord) (.ref C_TooWide) = some false)
    (ysk_3_10 : PySem.W.subIn K (.ref C_NoWord) (.ref C_NoRow) = some false)
    (ysk_3_11 : PySem.W.subIn K (.ref C_NoWord) (.ref C_Nought) = some false)
    (ysk_3_12 : PySem.W.subIn K (.ref C_NoWord) (.ref C_NotKept) = some false)
    (ysk_3_13 : PySem.W.subIn K (.ref C_NoWord) (.ref C_NoBox) = some false)
    (ysk_4_0 : PySem.W.subIn K (.ref C_TooLong) (.ref C_NoText) = some false)
    (ysk_4_1 : PySem.W.subIn K (.ref C_TooLong) (.ref C_NoWood) = some false)
    (ysk_4_2 : PySem.W.subIn K (.ref C_TooLong) (.ref C_NoTree) = some false)
    (ysk_4_3 : PySem.W.subIn K (.ref C_TooLong) (.ref C_NoWord) = some false)
    (ysk_4_5 : PySem.W.subIn K (.ref C_TooLong) (.ref C_NoReader) = some false)
    (ysk_4_6 : PySem.W.subIn K (.ref C_TooLong) (.ref C_NoFit) = some false)
    (ysk_4_7 : PySem.W.subIn K (.ref C_TooLong) (.ref C_NoPrinter) = some false)
    (ysk_4_8 : PySem.W.subIn K (.ref C_TooLong) (.ref C_NoTurner) = some false)
    (ysk_4_9 : PySem.W.subIn K (.ref C_TooLong) (.ref C_TooWide) = some false)
    (ysk_4_10 : PySem.W.subIn K (.ref C_TooLong) (.ref C_NoRow) = some false)
    (ysk_4_11 : PySem.W.subIn K (.ref C_TooLong) (.ref C_Nought) = some false)
    (ysk_4_12 : PySem.W.subIn K (.ref C_TooLong) (.ref C_NotKept) = some false)
    (ysk_4_13 : PySem.W.subIn K (.ref C_TooLong) (.ref C_NoBox) = some false)
    (ysk_5_0 : PySem.W.subIn K (.ref C_NoReader) (.ref C_NoText) = some false)
    (ysk_5_1 : PySem.W.subIn K (.ref C_NoReader) (.ref C_NoWood) = some false)
    (ysk_5_2 : PySem.W.subIn K (.ref C_NoReader) (.ref C_NoTree) = some false)
    (ysk_5_3 : PySem.W.subIn K (.ref C_NoReader) (.ref C_NoWord) = some false)
    (ysk_5_4 : PySem.W.subIn K (.ref C_NoReader) (.ref C_TooLong) = some false)
    (ysk_5_6 : PySem.W.subIn K (.ref C_NoReader) (.ref C_NoFit) = some false)
    (ysk_5_7 : PySem.W.subIn K (.ref C_NoReader) (.ref C_NoPrinter) = some false)
    (ysk_5_8 : PySem.W.subIn K (.ref C_NoReader) (.ref C_NoTurner) = some false)
    (ysk_5_9 : PySem.W.subIn K (.ref C_NoReader) (.ref C_TooWide) = some false)
    (ysk_5_10 : PySem.W.subIn K (.ref C_NoReader) (.ref C_NoRow) = some false)
    (ysk_5_11 : PySem.W.subIn K (.ref C_NoReader) (.ref C_Nought) = some false)
    (ysk_5_12 : PySem.W.subIn K (.ref C_NoReader) (.ref C_NotKept) = some false)
    (ysk_5_13 : PySem.W.subIn K (.ref C_NoReader) (.ref C_NoBox) = some false)
    (ysk_6_0 : PySem.W.subIn K (.ref C_NoFit) (.ref C_NoText) = some false)
    (ysk_6_1 : PySem.W.subIn K (.ref C_NoFit) (.ref C_NoWood) = some false)
    (ysk_6_2 : PySem.W.subIn K (.ref C_NoFit) (.ref C_NoTree) = some false)
    (ysk_6_3 : PySem.W.subIn K (.ref C_NoFit) (.ref C_NoWord) = some false)
    (ysk_6_4 : PySem.W.subIn K (.ref C_NoFit) (.ref C_TooLong) = some false)
    (ysk_6_5 : PySem.W.subIn K (.ref C_NoFit) (.ref C_NoReader) = some false)
    (ysk_6_7 : PySem.W.subIn K (.ref C_NoFit) (.ref C_NoPrinter) = some false)
    (ysk_6_8 : PySem.W.subIn K (.ref C_NoFit) (.ref C_NoTurner) = some false)
    (ysk_6_9 : PySem.W.subIn K (.ref C_NoFit) (.ref C_TooWide) = some false)
    (ysk_6_10 : PySem.W.subIn K (.ref C_NoFit) (.ref C_NoRow) = some false)
    (ysk_6_11 : PySem.W.subIn K (.ref C_NoFit) (.ref C_Nought) = some false)
    (ysk_6_12 : PySem.W.subIn K (.ref C_NoFit) (.ref C_NotKept) = some false)
    (ysk_6_13 : PySem.W.subIn K (.ref C_NoFit) (.ref C_NoBox) = some false)
    (ysk_7_0 : PySem.W.subIn K (.ref C_NoPrinter) (.ref C_NoText) = some false)
    (ysk_7_1 : PySem.W.subIn K (.ref C_NoPrinter) (.ref C_NoWood) = some false)
    (ysk_7_2 : PySem.W.subIn K (.ref C_NoPrinter) (.ref C_NoTree) = some false)
    (ysk_7_3 : PySem.W.subIn K (.ref C_NoPrinter) (.ref C_NoWord) = some false)
    (ysk_7_4 : PySem.W.subIn K (.ref C_NoPrinter) (.ref C_TooLong) = some false)
    (ysk_7_5 : PySem.W.subIn K (.ref C_NoPrinter) (.ref C_NoReader) = some false)
    (ysk_7_6 : PySem.W.subIn K (.ref C_NoPrinter) (.ref C_NoFit) = some false)
    (ysk_7_8 : PySem.W.subIn K (.ref C_NoPrinter) (.ref C_NoTurner) = some false)
    (ysk_7_9 : PySem.W.subIn K (.ref C_NoPrinter) (.ref C_TooWide) = some false)
    (ysk_7_10 : PySem.W.subIn K (.ref C_NoPrinter) (.ref C_NoRow) = some false)
    (ysk_7_11 : PySem.W.subIn K (.ref C_NoPrinter) (.ref C_Nought) = some false)
    (ysk_7_12 : PySem.W.subIn K (.ref C_NoPrinter) (.ref C_NotKept) = some false)
    (ysk_7_13 : PySem.W.subIn K (.ref C_NoPrinter) (.ref C_NoBox) = some false)
    (ysk_8_0 : PySem.W.subIn K (.ref C_NoTurner) (.ref C_NoText) = some false)
    (ysk_8_1 : PySem.W.subIn K (.ref C_NoTurner) (.ref C_NoWood) = some false)
    (ysk_8_2 : PySem.W.subIn K (.ref C_NoTurner) (.ref C_NoTree) = some false)
    (ysk_8_3 : PySem.W.subIn K (.ref C_NoTurner) (.ref C_NoWord) = some false)
    (ysk_8_4 : PySem.W.subIn K (.ref C_NoTurner) (.ref C_TooLong) = some false)
    (ysk_8_5 : PySem.W.subIn K (.ref C_NoTurner) (.ref C_NoReader) = some false)
    (ysk_8_6 : PySem.W.subIn K (.ref C_NoTurner) (.ref C_NoFit) = some false)
    (ysk_8_7 : PySem.W.subIn K (.ref C_NoTurner) (.ref C_NoPrinter) = some false)
    (ysk_8_9 : PySem.W.subIn K (.ref C_NoTurner) (.ref C_TooWide) = some false)
    (ysk_8_10 : PySem.W.subIn K (.ref C_NoTurner) (.ref C_NoRow) = some false)
    (ysk_8_11 : PySem.W.subIn K (.ref C_NoTurner) (.ref C_Nought) = some false)
    (ysk_8_12 : PySem.W.subIn K (.ref C_NoTurner) (.ref C_NotKept) = some false)
    (ysk_8_13 : PySem.W.subIn K (.ref C_NoTurner) (.ref C_NoBox) = some false)
    (ysk_9_0 : PySem.W.subIn K (.ref C_TooWide) (.ref C_NoText) = some false)
    (ysk_9_1 : PySem.W.subIn K (.ref C_TooWide) (.ref C_NoWood) = some false)
    (ysk_9_2 : PySem.W.subIn K (.ref C_TooWide) (.ref C_NoTree) = some false)
    (ysk_9_3 : PySem.W.subIn K (.ref C_TooWide) (.ref C_NoWord) = some false)
    (ysk_9_4 : PySem.W.subIn K (.ref C_TooWide) (.ref C_TooLong) = some false)
    (ysk_9_5 : PySem.W.subIn K (.ref C_TooWide) (.ref C_NoReader) = some false)
    (ysk_9_6 : PySem.W.subIn K (.ref C_TooWide) (.ref C_NoFit) = some false)
    (ysk_9_7 : PySem.W.subIn K (.ref C_TooWide) (.ref C_NoPrinter) = some false)
    (ysk_9_8 : PySem.W.subIn K (.ref C_TooWide) (.ref C_NoTurner) = some false)
    (ysk_9_10 : PySem.W.subIn K (.ref C_TooWide) (.ref C_NoRow) = some false)
    (ysk_9_11 : PySem.W.subIn K (.ref C_TooWide) (.ref C_Nought) = some false)
    (ysk_9_12 : PySem.W.subIn K (.ref C_TooWide) (.ref C_NotKept) = some false)
    (ysk_9_13 : PySem.W.subIn K (.ref C_TooWide) (.ref C_NoBox) = some false)
    (ysk_10_0 : PySem.W.subIn K (.ref C_NoRow) (.ref C_NoText) = some false)
    (ysk_10_1 : PySem.W.subIn K (.ref C_NoRow) (.ref C_NoWood) = some false)
    (ysk_10_2 : PySem.W.subIn K (.ref C_NoRow) (.ref C_NoTree) = some false)
    (ysk_10_3 : PySem.W.subIn K (.ref C_NoRow) (.ref C_NoWord) = some false)
    (ysk_10_4 : PySem.W.subIn K (.ref C_NoRow) (.ref C_TooLong) = some false)
    (ysk_10_5 : PySem.W.subIn K (.ref C_NoRow) (.ref C_NoReader) = some false)
    (ysk_10_6 : PySem.W.subIn K (.ref C_NoRow) (.ref C_NoFit) = some false)
    (ysk_10_7 : PySem.W.subIn K (.ref C_NoRow) (.ref C_NoPrinter) = some false)
    (ysk_10_8 : PySem.W.subIn K (.ref C_NoRow) (.ref C_NoTurner) = some false)
    (ysk_10_9 : PySem.W.subIn K (.ref C_NoRow) (.ref C_TooWide) = some false)
    (ysk_10_11 : PySem.W.subIn K (.ref C_NoRow) (.ref C_Nought) = some false)
    (ysk_10_12 : PySem.W.subIn K (.ref C_NoRow) (.ref C_NotKept) = some false)
    (ysk_10_13 : PySem.W.subIn K (.ref C_NoRow) (.ref C_NoBox) = some false)
    (ysk_11_0 : PySem.W.subIn K (.ref C_Nought) (.ref C_NoText) = some false)
    (ysk_11_1 : PySem.W.subIn K (.ref C_Nought) (.ref C_NoWood) = some false)
    (ysk_11_2 : PySem.W.subIn K (.ref C_Nought) (.ref C_NoTree) = some false)
    (ysk_11_3 : PySem.W.subIn K (.ref C_Nought) (.ref C_NoWord) = some false)
    (ysk_11_4 : PySem.W.subIn K (.ref C_Nought) (.ref C_TooLong) = some false)
    (ysk_11_5 : PySem.W.subIn K (.ref C_Nought) (.ref C_NoReader) = some false)
    (ysk_11_6 : PySem.W.subIn K (.ref C_Nought) (.ref C_NoFit) = some false)
    (ysk_11_7 : PySem.W.subIn K (.ref C_Nought) (.ref C_NoPrinter) = some false)
    (ysk_11_8 : PySem.W.subIn K (.ref C_Nought) (.ref C_NoTurner) = some false)
    (ysk_11_9 : PySem.W.subIn K (.ref C_Nought) (.ref C_TooWide) = some false)
    (ysk_11_10 : PySem.W.subIn K (.ref C_Nought) (.ref C_NoRow) = some false)
    (ysk_11_12 : PySem.W.subIn K (.ref C_Nought) (.ref C_NotKept) = some false)
    (ysk_11_13 : PySem.W.subIn K (.ref C_Nought) (.ref C_NoBox) = some false)
    (ysk_12_0 : PySem.W.subIn K (.ref C_NotKept) (.ref C_NoText) = some false)
    (ysk_12_1 : PySem.W.subIn K (.ref C_NotKept) (.ref C_NoWood) = some false)
    (ysk_12_2 : PySem.W.subIn K (.ref C_NotKept) (.ref C_NoTree) = some false)
    (ysk_12_3 : PySem.W.subIn K (.ref C_NotKept) (.ref C_NoWord) = some false)
    (ysk_12_4 : PySem.W.subIn K (.ref C_NotKept) (.ref C_TooLong) = some false)
    (ysk_12_5 : PySem.W.subIn K (.ref C_NotKept) (.ref C_NoReader) = some false)
    (ysk_12_6 : PySem.W.subIn K (.ref C_NotKept) (.ref C_NoFit) = some false)
    (ysk_12_7 : PySem.W.subIn K (.ref C_NotKept) (.ref C_NoPrinter) = some false)
    (ysk_12_8 : PySem.W.subIn K (.ref C_NotKept) (.ref C_NoTurner) = some false)
    (ysk_12_9 : PySem.W.subIn K (.ref C_NotKept) (.ref C_TooWide) = some false)
    (ysk_12_10 : PySem.W.subIn K (.ref C_NotKept) (.ref C_NoRow) = some false)
    (ysk_12_11 : PySem.W.subIn K (.ref C_NotKept) (.ref C_Nought) = some false)
    (ysk_12_13 : PySem.W.subIn K (.ref C_NotKept) (.ref C_NoBox) = some false)
    (ysk_13_0 : PySem.W.subIn K (.ref C_NoBox) (.ref C_NoText) = some false)
    (ysk_13_1 : PySem.W.subIn K (.ref C_NoBox) (.ref C_NoWood) = some false)
    (ysk_13_2 : PySem.W.subIn K (.ref C_NoBox) (.ref C_NoTree) = some false)
    (ysk_13_3 : PySem.W.subIn K (.ref C_NoBox) (.ref C_NoWord) = some false)
    (ysk_13_4 : PySem.W.subIn K (.ref C_NoBox) (.ref C_TooLong) = some false)
    (ysk_13_5 : PySem.W.subIn K (.ref C_NoBox) (.ref C_NoReader) = some false)
    (ysk_13_6 : PySem.W.subIn K (.ref C_NoBox) (.ref C_NoFit) = some false)
    (ysk_13_7 : PySem.W.subIn K (.ref C_NoBox) (.ref C_NoPrinter) = some false)
    (ysk_13_8 : PySem.W.subIn K (.ref C_NoBox) (.ref C_NoTurner) = some false)
    (ysk_13_9 : PySem.W.subIn K (.ref C_NoBox) (.ref C_TooWide) = some false)
    (ysk_13_10 : PySem.W.subIn K (.ref C_NoBox) (.ref C_NoRow) = some false)
    (ysk_13_11 : PySem.W.subIn K (.ref C_NoBox) (.ref C_Nought) = some false)
    (ysk_13_12 : PySem.W.subIn K (.ref C_NoBox) (.ref C_NotKept) = some false)
    (ysTB : PySem.W.subIn K (.ref C_NoText) (.ref C_BoughError) = some true)
    (ysTK : PySem.W.subIn K (.ref C_NotKept) (.type "KeyError") = some true)
    (ysKB : PySem.W.subIn K (.type "KeyError") (.type "BaseException") = some true)
    (ysB_0 : PySem.W.subIn K (.ref C_NoText) (.ref C_BoughError) = some true)
    (ysV_0 : PySem.W.subIn K (.ref C_NoText) (.type "ValueError") = some true)
    (ysZ_0 : PySem.W.subIn K (.ref C_NoText) (.type "ZeroDivisionError") = some false)
    (ysK_0 : PySem.W.subIn K (.ref C_NoText) (.type "KeyError") = some false)
    (ysI_0 : PySem.W.subIn K (.ref C_NoText) (.type "IndexError") = some false)
    (ysB_1 : PySem.W.subIn K (.ref C_NoWood) (.ref C_BoughError) = some true)
    (ysV_1 : PySem.W.subIn K (.ref C_NoWood) (.type "ValueError") = some true)
    (ysZ_1 : PySem.W.subIn K (.ref C_NoWood) (.type "ZeroDivisionError") = some false)
    (ysK_1 : PySem.W.subIn K (.ref C_NoWood) (.type "KeyError") = some false)
    (ysI_1 : PySem.W.subIn K (.ref C_NoWood) (.type "IndexError") = some false)
    (ysB_2 : PySem.W.subIn K (.ref C_NoTree) (.ref C_BoughError) = some true)
    (ysV_2 : PySem.W.subIn K (.ref C_NoTree) (.type "ValueError") = some true)
    (ysZ_2 : PySem.W.subIn K (.ref C_NoTree) (.type "ZeroDivisionError") = some false)
    (ysK_2 : PySem.W.subIn K (.ref C_NoTree) (.type "KeyError") = some false)
    (ysI_2 : PySem.W.subIn K (.ref C_NoTree) (.type "IndexError") = some false)
    (ysB_3 : PySem.W.subIn K (.ref C_NoWord) (.ref C_BoughError) = some true)
    (ysV_3 : PySem.W.subIn K (.ref C_NoWord) (.type "ValueError") = some true)
    (ysZ_3 : PySem.W.subIn K (.ref C_NoWord) (.type "ZeroDivisionError") = some false)
    (ysK_3 : PySem.W.subIn K (.ref C_NoWord) (.type "KeyError") = some false)
    (ysI_3 : PySem.W.subIn K (.ref C_NoWord) (.type "IndexError") = some false)
    (ysB_4 : PySem.W.subIn K (.ref C_TooLong) (.ref C_BoughError) = some true)
    (ysV_4 : PySem.W.subIn K (.ref C_TooLong) (.type "ValueError") = some true)
    (ysZ_4 : PySem.W.subIn K (.ref C_TooLong) (.type "ZeroDivisionError") = some false)
    (ysK_4 : PySem.W.subIn K (.ref C_TooLong) (.type "KeyError") = some false)
    (ysI_4 : PySem.W.subIn K (.ref C_TooLong) (.type "IndexError") = some false)
    (ysB_5 : PySem.W.subIn K (.ref C_NoReader) (.ref C_BoughError) = some true)
    (ysV_5 : PySem.W.subIn K (.ref C_NoReader) (.type "ValueError") = some true)
    (ysZ_5 : PySem.W.subIn K (.ref C_NoReader) (.type "ZeroDivisionError") = some false)
    (ysK_5 : PySem.W.subIn K (.ref C_NoReader) (.type "KeyError") = some false)
    (ysI_5 : PySem.W.subIn K (.ref C_NoReader) (.type "IndexError") = some false)
    (ysB_6 : PySem.W.subIn K (.ref C_NoFit) (.ref C_BoughError) = some true)
    (ysV_6 : PySem.W.subIn K (.ref C_NoFit) (.type "ValueError") = some true)
    (ysZ_6 : PySem.W.subIn K (.ref C_NoFit) (.type "ZeroDivisionError") = some false)
    (ysK_6 : PySem.W.subIn K (.ref C_NoFit) (.type "KeyError") = some false)
    (ysI_6 : PySem.W.subIn K (.ref C_NoFit) (.type "IndexError") = some false)
    (ysB_7 : PySem.W.subIn K (.ref C_NoPrinter) (.ref C_BoughError) = some true)
    (ysV_7 : PySem.W.subIn K (.ref C_NoPrinter) (.type "ValueError") = some true)
    (ysZ_7 : PySem.W.subIn K (.ref C_NoPrinter) (.type "ZeroDivisionError") = some false)
    (ysK_7 : PySem.W.subIn K (.ref C_NoPrinter) (.type "KeyError") = some false)
    (ysI_7 : PySem.W.subIn K (.ref C_NoPrinter) (.type "IndexError") = some false)
    (ysB_8 : PySem.W.subIn K (.ref C_NoTurner) (.ref C_BoughError) = some true)
    (ysV_8 : PySem.W.subIn K (.ref C_NoTurner) (.type "ValueError") = some true)
    (ysZ_8 : PySem.W.subIn K (.ref C_NoTurner) (.type "ZeroDivisionError") = some false)
    (ysK_8 : PySem.W.subIn K (.ref C_NoTurner) (.type "KeyError") = some false)
    (ysI_8 : PySem.W.subIn K (.ref C_NoTurner) (.type "IndexError") = some false)
    (ysB_9 : PySem.W.subIn K (.ref C_TooWide) (.ref C_BoughError) = some true)
    (ysV_9 : PySem.W.subIn K (.ref C_TooWide) (.type "ValueError") = some true)
    (ysZ_9 : PySem.W.subIn K (.ref C_TooWide) (.type "ZeroDivisionError") = some false)
    (ysK_9 : PySem.W.subIn K (.ref C_TooWide) (.type "KeyError") = some false)
    (ysI_9 : PySem.W.subIn K (.ref C_TooWide) (.type "IndexError") = some false)
    (ysB_10 : PySem.W.subIn K (.ref C_NoRow) (.ref C_BoughError) = some true)
    (ysV_10 : PySem.W.subIn K (.ref C_NoRow) (.type "ValueError") = some true)
    (ysZ_10 : PySem.W.subIn K (.ref C_NoRow) (.type "ZeroDivisionError") = some false)
    (ysK_10 : PySem.W.subIn K (.ref C_NoRow) (.type "KeyError") = some false)
    (ysI_10 : PySem.W.subIn K (.ref C_NoRow) (.type "IndexError") = some false)
    (ysB_11 : PySem.W.subIn K (.ref C_Nought) (.ref C_BoughError) = some false)
    (ysV_11 : PySem.W.subIn K (.ref C_Nought) (.type "ValueError") = some false)
    (ysZ_11 : PySem.W.subIn K (.ref C_Nought) (.type "ZeroDivisionError") = some true)
    (ysK_11 : PySem.W.subIn K (.ref C_Nought) (.type "KeyError") = some false)
    (ysI_11 : PySem.W.subIn K (.ref C_Nought) (.type "IndexError") = some false)
    (ysB_12 : PySem.W.subIn K (.ref C_NotKept) (.ref C_BoughError) = some false)
    (ysV_12 : PySem.W.subIn K (.ref C_NotKept) (.type "ValueError") = some false)
    (ysZ_12 : PySem.W.subIn K (.ref C_NotKept) (.type "ZeroDivisionError") = some false)
    (ysK_12 : PySem.W.subIn K (.ref C_NotKept) (.type "KeyError") = some true)
    (ysI_12 : PySem.W.subIn K (.ref C_NotKept) (.type "IndexError") = some false)
    (ysB_13 : PySem.W.subIn K (.ref C_NoBox) (.ref C_BoughError) = some false)
    (ysV_13 : PySem.W.subIn K (.ref C_NoBox) (.type "ValueError") = some false)
    (ysZ_13 : PySem.W.subIn K (.ref C_NoBox) (.type "ZeroDivisionError") = some false)
    (ysK_13 : PySem.W.subIn K (.ref C_NoBox) (.type "KeyError") = some false)
    (ysI_13 : PySem.W.subIn K (.ref C_NoBox) (.type "IndexError") = some true)
    (a_law_box : PySem.W.nsIn K mainGlobals "_law_box" = some (some (.ref f_law_box)))
    (l_law_box : K.lookup f_law_box = some ⟨oc_law_box, od_law_box, .func (PySem.W.fnOf "_law_box" "_law_box" (defArgs s_law_box) (defBody s_law_box) (defScope s_law_box) .none kV_law_box dc_law_box pm_law_box an_law_box cd_law_box ct_law_box), sl_law_box⟩)
    (c_law_box : PySem.W.codeIn K cd_law_box "_law_box" = true)
    (k_law_box : PySem.W.keepIn K (.ref f_law_box) = true)
    (a_law_take : PySem.W.nsIn K mainGlobals "_law_take" = some (some (.ref f_law_take)))
    (l_law_take : K.lookup f_law_take = some ⟨oc_law_take, od_law_take, .func (PySem.W.fnOf "_law_take" "_law_take" (defArgs s_law_take) (defBody s_law_take) (defScope s_law_take) .none kV_law_take dc_law_take pm_law_take an_law_take cd_law_take ct_law_take), sl_law_take⟩)
    (c_law_take : PySem.W.codeIn K cd_law_take "_law_take" = true)
    (k_law_take : PySem.W.keepIn K (.ref f_law_take) = true)
    (a_law_made : PySem.W.nsIn K mainGlobals "_law_made" = some (some (.ref f_law_made)))
    (l_law_made : K.lookup f_law_made = some ⟨oc_law_made, od_law_made, .func (PySem.W.fnOf "_law_made" "_law_made" (defArgs s_law_made) (defBody s_law_made) (defScope s_law_made) .none kV_law_made dc_law_made pm_law_made an_law_made cd_law_made ct_law_made), sl_law_made⟩)
    (c_law_made : PySem.W.codeIn K cd_law_made "_law_made" = true)
    (k_law_made : PySem.W.keepIn K (.ref f_law_made) = true)
    (a_law_named : PySem.W.nsIn K mainGlobals "_law_named" = some (some (.ref f_law_named)))
    (l_law_named : K.lookup f_law_named = some ⟨oc_law_named, od_law_named, .func (PySem.W.fnOf "_law_named" "_law_named" (defArgs s_law_named) (defBody s_law_named) (defScope s_law_named) .none kV_law_named dc_law_named pm_law_named an_law_named cd_law_named ct_law_named), sl_law_named⟩)
    (c_law_named : PySem.W.codeIn K cd_law_named "_law_named" = true)
    (k_law_named : PySem.W.keepIn K (.ref f_law_named) = true)
    (a_law_kinds : PySem.W.nsIn K mainGlobals "_law_kinds" = some (some (.ref f_law_kinds)))
    (l_law_kinds : K.lookup f_law_kinds = some ⟨oc_law_kinds, od_law_kinds, .func (PySem.W.fnOf "_law_kinds" "_law_kinds" (defArgs s_law_kinds) (defBody s_law_kinds) (defScope s_law_kinds) .none kV_law_kinds dc_law_kinds pm_law_kinds an_law_kinds cd_law_kinds ct_law_kinds), sl_law_kinds⟩)
    (c_law_kinds : PySem.W.codeIn K cd_law_kinds "_law_kinds" = true)
    (k_law_kinds : PySem.W.keepIn K (.ref f_law_kinds) = true)
    (a_law_fields : PySem.W.nsIn K mainGlobals "_law_fields" = some (some (.ref f_law_fields)))
    (l_law_fields : K.lookup f_law_fields = some ⟨oc_law_fields, od_law_fields, .func (PySem.W.fnOf "_law_fields" "_law_fields" (defArgs s_law_fields) (defBody s_law_fields) (defScope s_law_fields) .none kV_law_fields dc_law_fields pm_law_fields an_law_fields cd_law_fields ct_law_fields), sl_law_fields⟩)
    (c_law_fields : PySem.W.codeIn K cd_law_fields "_law_fields" = true)
    (k_law_fields : PySem.W.keepIn K (.ref f_law_fields) = true)
    (a_law_taken : PySem.W.nsIn K mainGlobals "_law_taken" = some (some (.ref f_law_taken)))
    (l_law_taken : K.lookup f_law_taken = some ⟨oc_law_taken, od_law_taken, .func (PySem.W.fnOf "_law_taken" "_law_taken" (defArgs s_law_taken) (defBody s_law_taken) (defScope s_law_taken) .none kV_law_taken dc_law_taken pm_law_taken an_law_taken cd_law_taken ct_law_taken), sl_law_taken⟩)
    (c_law_taken : PySem.W.codeIn K cd_law_taken "_law_taken" = true)
    (k_law_taken : PySem.W.keepIn K (.ref f_law_taken) = true)
    (a_law : PySem.W.nsIn K mainGlobals "law" = some (some (.ref f_law)))
    (l_law : K.lookup f_law = some ⟨oc_law, od_law, .func (PySem.W.fnOf "law" "law" (defArgs s_law) (defBody s_law) (defScope s_law) .none kV_law dc_law pm_law an_law cd_law ct_law), sl_law⟩)
    (c_law : PySem.W.codeIn K cd_law "law" = true)
    (k_law : PySem.W.keepIn K (.ref f_law) = true)
    (zb_IndexError : PySem.W.nsIn K mainGlobals "IndexError" = some none)
    (zb_KeyError : PySem.W.nsIn K mainGlobals "KeyError" = some none)
    (zb_ValueError : PySem.W.nsIn K mainGlobals "ValueError" = some none)
    (zb_ZeroDivisionError : PySem.W.nsIn K mainGlobals "ZeroDivisionError" = some none)
    (zb_enumerate : PySem.W.nsIn K mainGlobals "enumerate" = some none)
    (zb_int : PySem.W.nsIn K mainGlobals "int" = some none)
    (zb_isinstance : PySem.W.nsIn K mainGlobals "isinstance" = some none)
    (zb_len : PySem.W.nsIn K mainGlobals "len" = some none)
    (zb_range : PySem.W.nsIn K mainGlobals "range" = some none)
    (zb_zip : PySem.W.nsIn K mainGlobals "zip" = some none)
    : ∃ T : Txt K mg, T.a_law = f_law ∧ ∀ (s : Shared) (v : Value), BindsTo s T.d_law ⟨[v], []⟩ [("_law_script", v)] := by
  refine ⟨{
    a_BoughError := C_BoughError,
    m_BoughError := PySem.W.mg_of X G ac_BoughError,
    x_BoughError := ⟨⟨_, _, _, _, _, _, _, _, _, _, _, _, _, _, _, xl_BoughError, fun Y => rfl⟩, xe_BoughError, xt_BoughError, xk_BoughError⟩,
    i0_BoughError := xi_BoughError,
    t0_BoughError := xt_BoughError,
    s0_BoughError := xs_BoughError,
    e_BoughError := exm_self xe_BoughError xi_BoughError xt_BoughError xs_BoughError,
    c_BoughError := ⟨g1_BoughError, g2_BoughError, xe_BoughError, g3_BoughError, g4_BoughError, g5_BoughError, g6_BoughError, g7_BoughError⟩,
    h_BoughError := ⟨h1_BoughError, h2_BoughError, h3_BoughError⟩,
    a_NoText := C_NoText,
    m_NoText := PySem.W.mg_of X G ac_NoText,
    x_NoText := ⟨⟨_, _, _, _, _, _, _, _, _, _, _, _, _, _, _, xl_NoText, fun Y => rfl⟩, xe_NoText, xt_NoText, xk_NoText⟩,
    i0_NoText := xi_NoText,
    t0_NoText := xt_NoText,
    s0_NoText := xs_NoText,
    e_NoText := exm_self xe_NoText xi_NoText xt_NoText xs_NoText,
    c_NoText := ⟨g1_NoText, g2_NoText, xe_NoText, g3_NoText, g4_NoText, g5_NoText, g6_NoText, g7_NoText⟩,
    aI_NoText := fI_NoText,
    dI_NoText := _,
    FI_NoText := fun_mk (st := sI_NoText) lI_NoText cI_NoText kI_NoText,
    bI_NoText := (fun_mk (st := sI_NoText) lI_NoText cI_NoText kI_NoText).binds (ps := ["self", "row"]) fun _ _ _ _ _ _ us hl => match us, hl with | [_, _], _ => rfl,
    i_NoText := iI_NoText,
    t_NoText := tI_NoText,
    os_NoText := ⟨⟨_, _, _, _, _, _, _, _, _, _, _, _, _, _, _, xl_NoText, (newV.ref _), (has_ref hasV), (stores_V.ref _)⟩, sa_NoText, xe_NoText, xt_NoText, xk_NoText⟩,
    n_NoText_row := nf_NoText_row,
    a_NoWood := C_NoWood,
    m_NoWood := PySem.W.mg_of X G ac_NoWood,
    x_NoWood := ⟨⟨_, _, _, _, _, _, _, _, _, _, _, _, _, _, _, xl_NoWood, fun Y => rfl⟩, xe_NoWood, xt_NoWood, xk_NoWood⟩,
    i0_NoWood := xi_NoWood,
    t0_NoWood := xt_NoWood,
    s0_NoWood := xs_NoWood,
    e_NoWood := exm_self xe_NoWood xi_NoWood xt_NoWood xs_NoWood,
    c_NoWood := ⟨g1_NoWood, g2_NoWood, xe_NoWood, g3_NoWood, g4_NoWood, g5_NoWood, g6_NoWood, g7_NoWood⟩,
    aI_NoWood := fI_NoWood,
    dI_NoWood := _,
    FI_NoWood := fun_mk (st := sI_NoWood) lI_NoWood cI_NoWood kI_NoWood,
    bI_NoWood := (fun_mk (st := sI_NoWood) lI_NoWood cI_NoWood kI_NoWood).binds (ps := ["self", "word", "name"]) fun _ _ _ _ _ _ us hl => match us, hl with | [_, _, _], _ => rfl,
    i_NoWood := iI_NoWood,
    t_NoWood := tI_NoWood,
    os_NoWood := ⟨⟨_, _, _, _, _, _, _, _, _, _, _, _, _, _, _, xl_NoWood, (newV.ref _), (has_ref hasV), (stores_V.ref _)⟩, sa_NoWood, xe_NoWood, xt_NoWood, xk_NoWood⟩,
    n_NoWood_word := nf_NoWood_word,
    n_NoWood_name := nf_NoWood_name,
    a_NoTree := C_NoTree,
    m_NoTree := PySem.W.mg_of X G ac_NoTree,
    x_NoTree := ⟨⟨_, _, _, _, _, _, _, _, _, _, _, _, _, _, _, xl_NoTree, fun Y => rfl⟩, xe_NoTree, xt_NoTree, xk_NoTree⟩,
    i0_NoTree := xi_NoTree,
    t0_NoTree := xt_NoTree,
    s0_NoTree := xs_NoTree,
    e_NoTree := exm_self xe_NoTree xi_NoTree xt_NoTree xs_NoTree,
    c_NoTree := ⟨g1_NoTree, g2_NoTree, xe_NoTree, g3_NoTree, g4_NoTree, g5_NoTree, g6_NoTree, g7_NoTree⟩,
    aI_NoTree := fI_NoTree,
    dI_NoTree := _,
    FI_NoTree := fun_mk (st := sI_NoTree) lI_NoTree cI_NoTree kI_NoTree,
    bI_NoTree := (fun_mk (st := sI_NoTree) lI_NoTree cI_NoTree kI_NoTree).binds (ps := ["self", "at"]) fun _ _ _ _ _ _ us hl => match us, hl with | [_, _], _ => rfl,
    i_NoTree := iI_NoTree,
    t_NoTree := tI_NoTree,
    os_NoTree := ⟨⟨_, _, _, _, _, _, _, _, _, _, _, _, _, _, _, xl_NoTree, (newV.ref _), (has_ref hasV), (stores_V.ref _)⟩, sa_NoTree, xe_NoTree, xt_NoTree, xk_NoTree⟩,
    n_NoTree_at := nf_NoTree_at,
    a_NoWord := C_NoWord,
    m_NoWord := PySem.W.mg_of X G ac_NoWord,
    x_NoWord := ⟨⟨_, _, _, _, _, _, _, _, _, _, _, _, _, _, _, xl_NoWord, fun Y => rfl⟩, xe_NoWord, xt_NoWord, xk_NoWord⟩,
    i0_NoWord := xi_NoWord,
    t0_NoWord := xt_NoWord,
    s0_NoWord := xs_NoWord,
    e_NoWord := exm_self xe_NoWord xi_NoWord xt_NoWord xs_NoWord,
    c_NoWord := ⟨g1_NoWord, g2_NoWord, xe_NoWord, g3_NoWord, g4_NoWord, g5_NoWord, g6_NoWord, g7_NoWord⟩,
    aI_NoWord := fI_NoWord,
    dI_NoWord := _,
    FI_NoWord := fun_mk (st := sI_NoWord) lI_NoWord cI_NoWord kI_NoWord,
    bI_NoWord := (fun_mk (st := sI_NoWord) lI_NoWord cI_NoWord kI_NoWord).binds (ps := ["self", "at"]) fun _ _ _ _ _ _ us hl => match us, hl with | [_, _], _ => rfl,
    i_NoWord := iI_NoWord,
    t_NoWord := tI_NoWord,
    os_NoWord := ⟨⟨_, _, _, _, _, _, _, _, _, _, _, _, _, _, _, xl_NoWord, (newV.ref _), (has_ref hasV), (stores_V.ref _)⟩, sa_NoWord, xe_NoWord, xt_NoWord, xk_NoWord⟩,
    n_NoWord_at := nf_NoWord_at,
    a_TooLong := C_TooLong,
    m_TooLong := PySem.W.mg_of X G ac_TooLong,
    x_TooLong := ⟨⟨_, _, _, _, _, _, _, _, _, _, _, _, _, _, _, xl_TooLong, fun Y => rfl⟩, xe_TooLong, xt_TooLong, xk_TooLong⟩,
    i0_TooLong := xi_TooLong,
    t0_TooLong := xt_TooLong,
    s0_TooLong := xs_TooLong,
    e_TooLong := exm_self xe_TooLong xi_TooLong xt_TooLong xs_TooLong,
    c_TooLong := ⟨g1_TooLong, g2_TooLong, xe_TooLong, g3_TooLong, g4_TooLong, g5_TooLong, g6_TooLong, g7_TooLong⟩,
    aI_TooLong := fI_TooLong,
    dI_TooLong := _,
    FI_TooLong := fun_mk (st := sI_TooLong) lI_TooLong cI_TooLong kI_TooLong,
    bI_TooLong := (fun_mk (st := sI_TooLong) lI_TooLong cI_TooLong kI_TooLong).binds (ps := ["self", "most"]) fun _ _ _ _ _ _ us hl => match us, hl with | [_, _], _ => rfl,
    i_TooLong := iI_TooLong,
    t_TooLong := tI_TooLong,
    os_TooLong := ⟨⟨_, _, _, _, _, _, _, _, _, _, _, _, _, _, _, xl_TooLong, (newV.ref _), (has_ref hasV), (stores_V.ref _)⟩, sa_TooLong, xe_TooLong, xt_TooLong, xk_TooLong⟩,
    n_TooLong_most := nf_TooLong_most,
    a_NoReader := C_NoReader,
    m_NoReader := PySem.W.mg_of X G ac_NoReader,
    x_NoReader := ⟨⟨_, _, _, _, _, _, _, _, _, _, _, _, _, _, _, xl_NoReader, fun Y => rfl⟩, xe_NoReader, xt_NoReader, xk_NoReader⟩,
    i0_NoReader := xi_NoReader,
    t0_NoReader := xt_NoReader,
    s0_NoReader := xs_NoReader,
    e_NoReader := exm_self xe_NoReader xi_NoReader xt_NoReader xs_NoReader,
    c_NoReader := ⟨g1_NoReader, g2_NoReader, xe_NoReader, g3_NoReader, g4_NoReader, g5_NoReader, g6_NoReader, g7_NoReader⟩,
    aI_NoReader := fI_NoReader,
    dI_NoReader := _,
    FI_NoReader := fun_mk (st := sI_NoReader) lI_NoReader cI_NoReader kI_NoReader,
    bI_NoReader := (fun_mk (st := sI_NoReader) lI_NoReader cI_NoReader kI_NoReader).binds (ps := ["self", "word", "maker"]) fun _ _ _ _ _ _ us hl => match us, hl with | [_, _, _], _ => rfl,
    i_NoReader := iI_NoReader,
    t_NoReader := tI_NoReader,
    os_NoReader := ⟨⟨_, _, _, _, _, _, _, _, _, _, _, _, _, _, _, xl_NoReader, (newV.ref _), (has_ref hasV), (stores_V.ref _)⟩, sa_NoReader, xe_NoReader, xt_NoReader, xk_NoReader⟩,
    n_NoReader_word := nf_NoReader_word,
    n_NoReader_maker := nf_NoReader_maker,
    a_NoFit := C_NoFit,
    m_NoFit := PySem.W.mg_of X G ac_NoFit,
    x_NoFit := ⟨⟨_, _, _, _, _, _, _, _, _, _, _, _, _, _, _, xl_NoFit, fun Y => rfl⟩, xe_NoFit, xt_NoFit, xk_NoFit⟩,
    i0_NoFit := xi_NoFit,
    t0_NoFit := xt_NoFit,
    s0_NoFit := xs_NoFit,
    e_NoFit := exm_self xe_NoFit xi_NoFit xt_NoFit xs_NoFit,
    c_NoFit := ⟨g1_NoFit, g2_NoFit, xe_NoFit, g3_NoFit, g4_NoFit, g5_NoFit, g6_NoFit, g7_NoFit⟩,
    aI_NoFit := fI_NoFit,
    dI_NoFit := _,
    FI_NoFit := fun_mk (st := sI_NoFit) lI_NoFit cI_NoFit kI_NoFit,
    bI_NoFit := (fun_mk (st := sI_NoFit) lI_NoFit cI_NoFit kI_NoFit).binds (ps := ["self", "at"]) fun _ _ _ _ _ _ us hl => match us, hl with | [_, _], _ => rfl,
    i_NoFit := iI_NoFit,
    t_NoFit := tI_NoFit,
    os_NoFit := ⟨⟨_, _, _, _, _, _, _, _, _, _, _, _, _, _, _, xl_NoFit, (newV.ref _), (has_ref hasV), (stores_V.ref _)⟩, sa_NoFit, xe_NoFit, xt_NoFit, xk_NoFit⟩,
    n_NoFit_at := nf_NoFit_at,
    a_NoPrinter := C_NoPrinter,
    m_NoPrinter := PySem.W.mg_of X G ac_NoPrinter,
    x_NoPrinter := ⟨⟨_, _, _, _, _, _, _, _, _, _, _, _, _, _, _, xl_NoPrinter, fun Y => rfl⟩, xe_NoPrinter, xt_NoPrinter, xk_NoPrinter⟩,
    i0_NoPrinter := xi_NoPrinter,
    t0_NoPrinter := xt_NoPrinter,
    s0_NoPrinter := xs_NoPrinter,
    e_NoPrinter := exm_self xe_NoPrinter xi_NoPrinter xt_NoPrinter xs_NoPrinter,
    c_NoPrinter := ⟨g1_NoPrinter, g2_NoPrinter, xe_NoPrinter, g3_NoPrinter, g4_NoPrinter, g5_NoPrinter, g6_NoPrinter, g7_NoPrinter⟩,
    aI_NoPrinter := fI_NoPrinter,
    dI_NoPrinter := _,
    FI_NoPrinter := fun_mk (st := sI_NoPrinter) lI_NoPrinter cI_NoPrinter kI_NoPrinter,
    bI_NoPrinter := (fun_mk (st := sI_NoPrinter) lI_NoPrinter cI_NoPrinter kI_NoPrinter).binds (ps := ["self", "word", "maker"]) fun _ _ _ _ _ _ us hl => match us, hl with | [_, _, _], _ => rfl,
    i_NoPrinter := iI_NoPrinter,
    t_NoPrinter := tI_NoPrinter,
    os_NoPrinter := ⟨⟨_, _, _, _, _, _, _, _, _, _, _, _, _, _, _, xl_NoPrinter, (newV.ref _), (has_ref hasV), (stores_V.ref _)⟩, sa_NoPrinter, xe_NoPrinter, xt_NoPrinter, xk_NoPrinter⟩,
    n_NoPrinter_word := nf_NoPrinter_word,
    n_NoPrinter_maker := nf_NoPrinter_maker,
    a_NoTurner := C_NoTurner,
    m_NoTurner := PySem.W.mg_of X G ac_NoTurner,
    x_NoTurner := ⟨⟨_, _, _, _, _, _, _, _, _, _, _, _, _, _, _, xl_NoTurner, fun Y => rfl⟩, xe_NoTurner, xt_NoTurner, xk_NoTurner⟩,
    i0_NoTurner := xi_NoTurner,
    t0_NoTurner := xt_NoTurner,
    s0_NoTurner := xs_NoTurner,
    e_NoTurner := exm_self xe_NoTurner xi_NoTurner xt_NoTurner xs_NoTurner,
    c_NoTurner := ⟨g1_NoTurner, g2_NoTurner, xe_NoTurner, g3_NoTurner, g4_NoTurner, g5_NoTurner, g6_NoTurner, g7_NoTurner⟩,
    aI_NoTurner := fI_NoTurner,
    dI_NoTurner := _,
    FI_NoTurner := fun_mk (st := sI_NoTurner) lI_NoTurner cI_NoTurner kI_NoTurner,
    bI_NoTurner := (fun_mk (st := sI_NoTurner) lI_NoTurner cI_NoTurner kI_NoTurner).binds (ps := ["self", "word", "maker"]) fun _ _ _ _ _ _ us hl => match us, hl with | [_, _, _], _ => rfl,
    i_NoTurner := iI_NoTurner,
    t_NoTurner := tI_NoTurner,
    os_NoTurner := ⟨⟨_, _, _, _, _, _, _, _, _, _, _, _, _, _, _, xl_NoTurner, (newV.ref _), (has_ref hasV), (stores_V.ref _)⟩, sa_NoTurner, xe_NoTurner, xt_NoTurner, xk_NoTurner⟩,
    n_NoTurner_word := nf_NoTurner_word,
    n_NoTurner_maker := nf_NoTurner_maker,
    a_TooWide := C_TooWide,
    m_TooWide := PySem.W.mg_of X G ac_TooWide,
    x_TooWide := ⟨⟨_, _, _, _, _, _, _, _, _, _, _, _, _, _, _, xl_TooWide, fun Y => rfl⟩, xe_TooWide, xt_TooWide, xk_TooWide⟩,
    i0_TooWide := xi_TooWide,
    t0_TooWide := xt_TooWide,
    s0_TooWide := xs_TooWide,
    e_TooWide := exm_self xe_TooWide xi_TooWide xt_TooWide xs_TooWide,
    c_TooWide := ⟨g1_TooWide, g2_TooWide, xe_TooWide, g3_TooWide, g4_TooWide, g5_TooWide, g6_TooWide, g7_TooWide⟩,
    aI_TooWide := fI_TooWide,
    dI_TooWide := _,
    FI_TooWide := fun_mk (st := sI_TooWide) lI_TooWide cI_TooWide kI_TooWide,
    bI_TooWide := (fun_mk (st := sI_TooWide) lI_TooWide cI_TooWide kI_TooWide).binds (ps := ["self", "rooms"]) fun _ _ _ _ _ _ us hl => match us, hl with | [_, _], _ => rfl,
    i_TooWide := iI_TooWide,
    t_TooWide := tI_TooWide,
    os_TooWide := ⟨⟨_, _, _, _, _, _, _, _, _, _, _, _, _, _, _, xl_TooWide, (newV.ref _), (has_ref hasV), (stores_V.ref _)⟩, sa_TooWide, xe_TooWide, xt_TooWide, xk_TooWide⟩,
    n_TooWide_rooms := nf_TooWide_rooms,
    a_NoRow := C_NoRow,
    m_NoRow := PySem.W.mg_of X G ac_NoRow,
    x_NoRow := ⟨⟨_, _, _, _, _, _, _, _, _, _, _, _, _, _, _, xl_NoRow, fun Y => rfl⟩, xe_NoRow, xt_NoRow, xk_NoRow⟩,
    i0_NoRow := xi_NoRow,
    t0_NoRow := xt_NoRow,
    s0_NoRow := xs_NoRow,
    e_NoRow := exm_self xe_NoRow xi_NoRow xt_NoRow xs_NoRow,
    c_NoRow := ⟨g1_NoRow, g2_NoRow, xe_NoRow, g3_NoRow, g4_NoRow, g5_NoRow, g6_NoRow, g7_NoRow⟩,
    aI_NoRow := fI_NoRow,
    dI_NoRow := _,
    FI_NoRow := fun_mk (st := sI_NoRow) lI_NoRow cI_NoRow kI_NoRow,
    bI_NoRow := (fun_mk (st := sI_NoRow) lI_NoRow cI_NoRow kI_NoRow).binds (ps := ["self"]) fun _ _ _ _ _ _ us hl => match us, hl with | [_], _ => rfl,
    i_NoRow := iI_NoRow,
    t_NoRow := tI_NoRow,
    os_NoRow := ⟨⟨_, _, _, _, _, _, _, _, _, _, _, _, _, _, _, xl_NoRow, (newV.ref _), (has_ref hasV), (stores_V.ref _)⟩, sa_NoRow, xe_NoRow, xt_NoRow, xk_NoRow⟩,
    a_Nought := C_Nought,
    m_Nought := PySem.W.mg_of X G ac_Nought,
    x_Nought := ⟨⟨_, _, _, _, _, _, _, _, _, _, _, _, _, _, _, xl_Nought, fun Y => rfl⟩, xe_Nought, xt_Nought, xk_Nought⟩,
    i0_Nought := xi_Nought,
    t0_Nought := xt_Nought,
    s0_Nought := xs_Nought,
    e_Nought := exm_self xe_Nought xi_Nought xt_Nought xs_Nought,
    c_Nought := ⟨g1_Nought, g2_Nought, xe_Nought, g3_Nought, g4_Nought, g5_Nought, g6_Nought, g7_Nought⟩,
    aI_Nought := fI_Nought,
    dI_Nought := _,
    FI_Nought := fun_mk (st := sI_Nought) lI_Nought cI_Nought kI_Nought,
    bI_Nought := (fun_mk (st := sI_Nought) lI_Nought cI_Nought kI_Nought).binds (ps := ["self"]) fun _ _ _ _ _ _ us hl => match us, hl with | [_], _ => rfl,
    i_Nought := iI_Nought,
    t_Nought := tI_Nought,
    os_Nought := ⟨⟨_, _, _, _, _, _, _, _, _, _, _, _, _, _, _, xl_Nought, newZ, (hasZ), stores_Z⟩, sa_Nought, xe_Nought, xt_Nought, xk_Nought⟩,
    a_NotKept := C_NotKept,
    m_NotKept := PySem.W.mg_of X G ac_NotKept,
    x_NotKept := ⟨⟨_, _, _, _, _, _, _, _, _, _, _, _, _, _, _, xl_NotKept, fun Y => rfl⟩, xe_NotKept, xt_NotKept, xk_NotKept⟩,
    i0_NotKept := xi_NotKept,
    t0_NotKept := xt_NotKept,
    s0_NotKept := xs_NotKept,
    e_NotKept := exm_self xe_NotKept xi_NotKept xt_NotKept xs_NotKept,
    c_NotKept := ⟨g1_NotKept, g2_NotKept, xe_NotKept, g3_NotKept, g4_NotKept, g5_NotKept, g6_NotKept, g7_NotKept⟩,
    aI_NotKept := fI_NotKept,
    dI_NotKept := _,
    FI_NotKept := fun_mk (st := sI_NotKept) lI_NotKept cI_NotKept kI_NotKept,
    bI_NotKept := (fun_mk (st := sI_NotKept) lI_NotKept cI_NotKept kI_NotKept).binds (ps := ["self", "name"]) fun _ _ _ _ _ _ us hl => match us, hl with | [_, _], _ => rfl,
    i_NotKept := iI_NotKept,
    t_NotKept := tI_NotKept,
    os_NotKept := ⟨⟨_, _, _, _, _, _, _, _, _, _, _, _, _, _, _, xl_NotKept, newK, (hasK), stores_K⟩, sa_NotKept, xe_NotKept, xt_NotKept, xk_NotKept⟩,
    n_NotKept_name := nf_NotKept_name,
    a_NoBox := C_NoBox,
    m_NoBox := PySem.W.mg_of X G ac_NoBox,
    x_NoBox := ⟨⟨_, _, _, _, _, _, _, _, _, _, _, _, _, _, _, xl_NoBox, fun Y => rfl⟩, xe_NoBox, xt_NoBox, xk_NoBox⟩,
    i0_NoBox := xi_NoBox,
    t0_NoBox := xt_NoBox,
    s0_NoBox := xs_NoBox,
    e_NoBox := exm_self xe_NoBox xi_NoBox xt_NoBox xs_NoBox,
    c_NoBox := ⟨g1_NoBox, g2_NoBox, xe_NoBox, g3_NoBox, g4_NoBox, g5_NoBox, g6_NoBox, g7_NoBox⟩,
    aI_NoBox := fI_NoBox,
    dI_NoBox := _,
    FI_NoBox := fun_mk (st := sI_NoBox) lI_NoBox cI_NoBox kI_NoBox,
    bI_NoBox := (fun_mk (st := sI_NoBox) lI_NoBox cI_NoBox kI_NoBox).binds (ps := ["self", "box"]) fun _ _ _ _ _ _ us hl => match us, hl with | [_, _], _ => rfl,
    i_NoBox := iI_NoBox,
    t_NoBox := tI_NoBox,
    os_NoBox := ⟨⟨_, _, _, _, _, _, _, _, _, _, _, _, _, _, _, xl_NoBox, newI, (hasI), stores_I⟩, sa_NoBox, xe_NoBox, xt_NoBox, xk_NoBox⟩,
    n_NoBox_box := nf_NoBox_box,
    v_IndexError := vb_IndexError,
    v_KeyError := vb_KeyError,
    v_ValueError := vb_ValueError,
    v_ZeroDivisionError := vb_ZeroDivisionError,
    sk_0_1 := ysk_0_1,
    sk_0_2 := ysk_0_2,
    sk_0_3 := ysk_0_3,
    sk_0_4 := ysk_0_4,
    sk_0_5 := ysk_0_5,
    sk_0_6 := ysk_0_6,
    sk_0_7 := ysk_0_7,
    sk_0_8 := ysk_0_8,
    sk_0_9 := ysk_0_9,
    sk_0_10 := ysk_0_10,
    sk_0_11 := ysk_0_11,
    sk_0_12 := ysk_0_12,
    sk_0_13 := ysk_0_13,
    sk_1_0 := ysk_1_0,
    sk_1_2 := ysk_1_2,
    sk_1_3 := ysk_1_3,
    sk_1_4 := ysk_1_4,
    sk_1_5 := ysk_1_5,
    sk_1_6 := ysk_1_6,
    sk_1_7 := ysk_1_7,
    sk_1_8 := ysk_1_8,
    sk_1_9 := ysk_1_9,
    sk_1_10 := ysk_1_10,
    sk_1_11 := ysk_1_11,
    sk_1_12 := ysk_1_12,
    sk_1_13 := ysk_1_13,
    sk_2_0 := ysk_2_0,
    sk_2_1 := ysk_2_1,
    sk_2_3 := ysk_2_3,
    sk_2_4 := ysk_2_4,
    sk_2_5 := ysk_2_5,
    sk_2_6 := ysk_2_6,
    sk_2_7 := ysk_2_7,
    sk_2_8 := ysk_2_8,
    sk_2_9 := ysk_2_9,
    sk_2_10 := ysk_2_10,
    sk_2_11 := ysk_2_11,
    sk_2_12 := ysk_2_12,
    sk_2_13 := ysk_2_13,
    sk_3_0 := ysk_3_0,
    sk_3_1 := ysk_3_1,
    sk_3_2 := ysk_3_2,
    sk_3_4 := ysk_3_4,
    sk_3_5 := ysk_3_5,
    sk_3_6 := ysk_3_6,
    sk_3_7 := ysk_3_7,
    sk_3_8 := ysk_3_8,
    sk_3_9 := ysk_3_9,
    sk_3_10 := ysk_3_10,
    sk_3_11 := ysk_3_11,
    sk_3_12 := ysk_3_12,
    sk_3_13 := ysk_3_13,
    sk_4_0 := ysk_4_0,
    sk_4_1 := ysk_4_1,
    sk_4_2 := ysk_4_2,
    sk_4_3 := ysk_4_3,
    sk_4_5 := ysk_4_5,
    sk_4_6 := ysk_4_6,
    sk_4_7 := ysk_4_7,
    sk_4_8 := ysk_4_8,
    sk_4_9 := ysk_4_9,
    sk_4_10 := ysk_4_10,
    sk_4_11 := ysk_4_11,
    sk_4_12 := ysk_4_12,
    sk_4_13 := ysk_4_13,
    sk_5_0 := ysk_5_0,
    sk_5_1 := ysk_5_1,
    sk_5_2 := ysk_5_2,
    sk_5_3 := ysk_5_3,
    sk_5_4 := ysk_5_4,
    sk_5_6 := ysk_5_6,
    sk_5_7 := ysk_5_7,
    sk_5_8 := ysk_5_8,
    sk_5_9 := ysk_5_9,
    sk_5_10 := ysk_5_10,
    sk_5_11 := ysk_5_11,
    sk_5_12 := ysk_5_12,
    sk_5_13 := ysk_5_13,
    sk_6_0 := ysk_6_0,
    sk_6_1 := ysk_6_1,
    sk_6_2 := ysk_6_2,
    sk_6_3 := ysk_6_3,
    sk_6_4 := ysk_6_4,
    sk_6_5 := ysk_6_5,
    sk_6_7 := ysk_6_7,
    sk_6_8 := ysk_6_8,
    sk_6_9 := ysk_6_9,
    sk_6_10 := ysk_6_10,
    sk_6_11 := ysk_6_11,
    sk_6_12 := ysk_6_12,
    sk_6_13 := ysk_6_13,
    sk_7_0 := ysk_7_0,
    sk_7_1 := ysk_7_1,
    sk_7_2 := ysk_7_2,
    sk_7_3 := ysk_7_3,
    sk_7_4 := ysk_7_4,
    sk_7_5 := ysk_7_5,
    sk_7_6 := ysk_7_6,
    sk_7_8 := ysk_7_8,
    sk_7_9 := ysk_7_9,
    sk_7_10 := ysk_7_10,
    sk_7_11 := ysk_7_11,
    sk_7_12 := ysk_7_12,
    sk_7_13 := ysk_7_13,
    sk_8_0 := ysk_8_0,
    sk_8_1 := ysk_8_1,
    sk_8_2 := ysk_8_2,
    sk_8_3 := ysk_8_3,
    sk_8_4 := ysk_8_4,
    sk_8_5 := ysk_8_5,
    sk_8_6 := ysk_8_6,
    sk_8_7 := ysk_8_7,
    sk_8_9 := ysk_8_9,
    sk_8_10 := ysk_8_10,
    sk_8_11 := ysk_8_11,
    sk_8_12 := ysk_8_12,
    sk_8_13 := ysk_8_13,
    sk_9_0 := ysk_9_0,
    sk_9_1 := ysk_9_1,
    sk_9_2 := ysk_9_2,
    sk_9_3 := ysk_9_3,
    sk_9_4 := ysk_9_4,
    sk_9_5 := ysk_9_5,
    sk_9_6 := ysk_9_6,
    sk_9_7 := ysk_9_7,
    sk_9_8 := ysk_9_8,
    sk_9_10 := ysk_9_10,
    sk_9_11 := ysk_9_11,
    sk_9_12 := ysk_9_12,
    sk_9_13 := ysk_9_13,
    sk_10_0 := ysk_10_0,
    sk_10_1 := ysk_10_1,
    sk_10_2 := ysk_10_2,
    sk_10_3 := ysk_10_3,
    sk_10_4 := ysk_10_4,
    sk_10_5 := ysk_10_5,
    sk_10_6 := ysk_10_6,
    sk_10_7 := ysk_10_7,
    sk_10_8 := ysk_10_8,
    sk_10_9 := ysk_10_9,
    sk_10_11 := ysk_10_11,
    sk_10_12 := ysk_10_12,
    sk_10_13 := ysk_10_13,
    sk_11_0 := ysk_11_0,
    sk_11_1 := ysk_11_1,
    sk_11_2 := ysk_11_2,
    sk_11_3 := ysk_11_3,
    sk_11_4 := ysk_11_4,
    sk_11_5 := ysk_11_5,
    sk_11_6 := ysk_11_6,
    sk_11_7 := ysk_11_7,
    sk_11_8 := ysk_11_8,
    sk_11_9 := ysk_11_9,
    sk_11_10 := ysk_11_10,
    sk_11_12 := ysk_11_12,
    sk_11_13 := ysk_11_13,
    sk_12_0 := ysk_12_0,
    sk_12_1 := ysk_12_1,
    sk_12_2 := ysk_12_2,
    sk_12_3 := ysk_12_3,
    sk_12_4 := ysk_12_4,
    sk_12_5 := ysk_12_5,
    sk_12_6 := ysk_12_6,
    sk_12_7 := ysk_12_7,
    sk_12_8 := ysk_12_8,
    sk_12_9 := ysk_12_9,
    sk_12_10 := ysk_12_10,
    sk_12_11 := ysk_12_11,
    sk_12_13 := ysk_12_13,
    sk_13_0 := ysk_13_0,
    sk_13_1 := ysk_13_1,
    sk_13_2 := ysk_13_2,
    sk_13_3 := ysk_13_3,
    sk_13_4 := ysk_13_4,
    sk_13_5 := ysk_13_5,
    sk_13_6 := ysk_13_6,
    sk_13_7 := ysk_13_7,
    sk_13_8 := ysk_13_8,
    sk_13_9 := ysk_13_9,
    sk_13_10 := ysk_13_10,
    sk_13_11 := ysk_13_11,
    sk_13_12 := ysk_13_12,
    sTB := ysTB,
    sTK := ysTK,
    sKB := ysKB,
    sB_0 := ysB_0,
    sV_0 := ysV_0,
    sZ_0 := ysZ_0,
    sK_0 := ysK_0,
    sI_0 := ysI_0,
    sB_1 := ysB_1,
    sV_1 := ysV_1,
    sZ_1 := ysZ_1,
    sK_1 := ysK_1,
    sI_1 := ysI_1,
    sB_2 := ysB_2,
    sV_2 := ysV_2,
    sZ_2 := ysZ_2,
    sK_2 := ysK_2,
    sI_2 := ysI_2,
    sB_3 := ysB_3,
    sV_3 := ysV_3,
    sZ_3 := ysZ_3,
    sK_3 := ysK_3,
    sI_3 := ysI_3,
    sB_4 := ysB_4,
    sV_4 := ysV_4,
    sZ_4 := ysZ_4,
    sK_4 := ysK_4,
    sI_4 := ysI_4,
    sB_5 := ysB_5,
    sV_5 := ysV_5,
    sZ_5 := ysZ_5,
    sK_5 := ysK_5,
    sI_5 := ysI_5,
    sB_6 := ysB_6,
    sV_6 := ysV_6,
    sZ_6 := ysZ_6,
    sK_6 := ysK_6,
    sI_6 := ysI_6,
    sB_7 := ysB_7,
    sV_7 := ysV_7,
    sZ_7 := ysZ_7,
    sK_7 := ysK_7,
    sI_7 := ysI_7,
    sB_8 := ysB_8,
    sV_8 := ysV_8,
    sZ_8 := ysZ_8,
    sK_8 := ysK_8,
    sI_8 := ysI_8,
    sB_9 := ysB_9,
    sV_9 := ysV_9,
    sZ_9 := ysZ_9,
    sK_9 := ysK_9,
    sI_9 := ysI_9,
    sB_10 := ysB_10,
    sV_10 := ysV_10,
    sZ_10 := ysZ_10,
    sK_10 := ysK_10,
    sI_10 := ysI_10,
    sB_11 := ysB_11,
    sV_11 := ysV_11,
    sZ_11 := ysZ_11,
    sK_11 := ysK_11,
    sI_11 := ysI_11,
    sB_12 := ysB_12,
    sV_12 := ysV_12,
    sZ_12 := ysZ_12,
    sK_12 := ysK_12,
    sI_12 := ysI_12,
    sB_13 := ysB_13,
    sV_13 := ysV_13,
    sZ_13 := ysZ_13,
    sK_13 := ysK_13,
    sI_13 := ysI_13,
    a_law_box := f_law_box,
    d_law_box := _,
    m_law_box := PySem.W.mg_of X G a_law_box,
    F_law_box := fun_mk (st := s_law_box) l_law_box c_law_box k_law_box,
    b_law_box := (fun_mk (st := s_law_box) l_law_box c_law_box k_law_box).binds (ps := ["_law_script", "_law_k"]) fun _ _ _ _ _ _ us hl => match us, hl with | [_, _], _ => rfl,
    a_law_take := f_law_take,
    d_law_take := _,
    m_law_take := PySem.W.mg_of X G a_law_take,
    F_law_take := fun_mk (st := s_law_take) l_law_take c_law_take k_law_take,
    b_law_take := (fun_mk (st := s_law_take) l_law_take c_law_take k_law_take).binds (ps := ["_law_draw", "_law_many"]) fun _ _ _ _ _ _ us hl => match us, hl with | [_, _], _ => rfl,
    a_law_made := f_law_made,
    d_law_made := _,
    m_law_made := PySem.W.mg_of X G a_law_made,
    F_law_made := fun_mk (st := s_law_made) l_law_made c_law_made k_law_made,
    b_law_made := (fun_mk (st := s_law_made) l_law_made c_law_made k_law_made).binds (ps := ["_law_k", "_law_one", "_law_other"]) fun _ _ _ _ _ _ us hl => match us, hl with | [_, _, _], _ => rfl,
    a_law_named := f_law_named,
    d_law_named := _,
    m_law_named := PySem.W.mg_of X G a_law_named,
    F_law_named := fun_mk (st := s_law_named) l_law_named c_law_named k_law_named,
    b_law_named := (fun_mk (st := s_law_named) l_law_named c_law_named k_law_named).binds (ps := ["_law_k", "_law_one", "_law_other"]) fun _ _ _ _ _ _ us hl => match us, hl with | [_, _, _], _ => rfl,
    a_law_kinds := f_law_kinds,
    d_law_kinds := _,
    m_law_kinds := PySem.W.mg_of X G a_law_kinds,
    F_law_kinds := fun_mk (st := s_law_kinds) l_law_kinds c_law_kinds k_law_kinds,
    b_law_kinds := (fun_mk (st := s_law_kinds) l_law_kinds c_law_kinds k_law_kinds).binds (ps := ["_law_e"]) fun _ _ _ _ _ _ us hl => match us, hl with | [_], _ => rfl,
    a_law_fields := f_law_fields,
    d_law_fields := _,
    m_law_fields := PySem.W.mg_of X G a_law_fields,
    F_law_fields := fun_mk (st := s_law_fields) l_law_fields c_law_fields k_law_fields,
    b_law_fields := (fun_mk (st := s_law_fields) l_law_fields c_law_fields k_law_fields).binds (ps := ["_law_some", "_law_one", "_law_other"]) fun _ _ _ _ _ _ us hl => match us, hl with | [_, _, _], _ => rfl,
    a_law_taken := f_law_taken,
    d_law_taken := _,
    m_law_taken := PySem.W.mg_of X G a_law_taken,
    F_law_taken := fun_mk (st := s_law_taken) l_law_taken c_law_taken k_law_taken,
    b_law_taken := (fun_mk (st := s_law_taken) l_law_taken c_law_taken k_law_taken).binds (ps := ["_law_one", "_law_other"]) fun _ _ _ _ _ _ us hl => match us, hl with | [_, _], _ => rfl,
    a_law := f_law,
    d_law := _,
    m_law := PySem.W.mg_of X G a_law,
    F_law := fun_mk (st := s_law) l_law c_law k_law,
    b_law := (fun_mk (st := s_law) l_law c_law k_law).binds (ps := ["_law_script"]) fun _ _ _ _ _ _ us hl => match us, hl with | [_], _ => rfl,
    z_IndexError := PySem.W.mg_none_of X G zb_IndexError,
    z_KeyError := PySem.W.mg_none_of X G zb_KeyError,
    z_ValueError := PySem.W.mg_none_of X G zb_ValueError,
    z_ZeroDivisionError := PySem.W.mg_none_of X G zb_ZeroDivisionError,
    z_enumerate := PySem.W.mg_none_of X G zb_enumerate,
    z_int := PySem.W.mg_none_of X G zb_int,
    z_isinstance := PySem.W.mg_none_of X G zb_isinstance,
    z_len := PySem.W.mg_none_of X G zb_len,
    z_range := PySem.W.mg_none_of X G zb_range,
    z_zip := PySem.W.mg_none_of X G zb_zip }, rfl, fun s v => .of_eq rfl⟩
end Lw
namespace Lw
open PySem PySem.Spec PyProof.Rows L2 Bk
theorem walk {l : PySem.W.OpenLaw} {q : Program} {loose : List Str} {XP : (Str → Option Value) → Heap → Prop} {YP : World → Heap → Prop} {d : DefRec} {K : Params → PySem.W.Frag} (hn : l.most = some 63) (hdf : d.params.defaults = [])
    (hY : ∀ (w : World) (h : Heap), YP w h → (K w.params).In h)
    (F : ∀ (w : World) (mg : Str → Option Value) (fa : Addr) (h : Heap), (K w.params).In h → h.Ns mainGlobals mg → mg d.name = some (.ref fa) →
      ∃ fd : FuncData, (∀ (s : Shared) (u : Value), BindsTo s fd ⟨[u], []⟩ [("_law_script", u)]) ∧ ∀ base : Heap, (K w.params).In base → base.Ns mainGlobals mg → FnOk l.prog w (K w.params) mg base (L2.CX l.prog w) 4 fa fd ["_law_script"] (spLaw (K w.params))) :
    PySem.W.WalkO q loose XP YP l.row.toRowW d [] (fun f vs => PySem.call f vs) :=
  L2.walk_of (n := 63) (k := 4) (x := "_law_script") (CX := fun w => L2.CX l.prog w) (sp := fun w => spLaw (K w.params)) hn (by decide) hdf ⟨rfl, by decide, by decide⟩ hY F (fun _ _ a ns hl hO hS => spLaw_of hO hS hl) fun _ _ _ _ _ z => cx_false z
theorem fin {P : Program} {w : World} {K : PySem.W.Frag} {mg : Str → Option Value} {fa f : Addr} (hmg : mg "law" = some (.ref fa)) (z : ∃ T : Txt K mg, T.a_law = f ∧ ∀ (s : Shared) (v : Value), BindsTo s T.d_law ⟨[v], []⟩ [("_law_script", v)]) :
    ∃ fd : FuncData, (∀ (s : Shared) (u : Value), BindsTo s fd ⟨[u], []⟩ [("_law_script", u)]) ∧ ∀ base : Heap, K.In base → base.Ns mainGlobals mg → FnOk P w K mg base (L2.CX P w) 4 fa fd ["_law_script"] (spLaw K) := by
  obtain ⟨T, ea, hb⟩ := z
  refine ⟨T.d_law, hb, fun base _ _ => ?_⟩
  have e := hmg.symm.trans T.m_law
  cases e
  exact ok_law T
end Lw
open PySem PySem.W PyProof.Rows
set_option maxRecDepth 100000 in
set_option maxHeartbeats 0 in
theorem PySem.Challenge.cw_boughkept_k05_refusals_holds : PySem.Challenge.rw_boughkept_k05_refusals.Holds := by
  w_on; o_law; k_head; (case hw => w_witness2)
  k_fill
  refine Lw.walk (l := PySem.Challenge.rw_boughkept_k05_refusals) rfl rfl (fun w h Y => PySem.W.kIn_of Y) ?F
  case F =>
    intro w mg fa h KX G hmg
    refine' Lw.fin hmg (Lw.mk_txt KX G ?ac_BoughError ?xl_BoughError ?xe_BoughError ?xt_BoughError ?xk_BoughError ?xi_BoughError ?xs_BoughError ?g1_BoughError ?g2_BoughError ?g3_BoughError ?g4_BoughError ?g5_BoughError ?g6_BoughError ?g7_BoughError ?h1_BoughError ?h2_BoughError ?h3_BoughError ?ac_NoText ?xl_NoText ?xe_NoText ?xt_NoText ?xk_NoText ?xi_NoText ?xs_NoText ?g1_NoText ?g2_NoText ?g3_NoText ?g4_NoText ?g5_NoText ?g6_NoText ?g7_NoText ?iI_NoText ?tI_NoText ?lI_NoText ?cI_NoText ?kI_NoText ?sa_NoText ?nf_NoText_row ?ac_NoWood ?xl_NoWood ?xe_NoWood ?xt_NoWood ?xk_NoWood ?xi_NoWood ?xs_NoWood ?g1_NoWood ?g2_NoWood ?g3_NoWood ?g4_NoWood ?g5_NoWood ?g6_NoWood ?g7_NoWood ?iI_NoWood ?tI_NoWood ?lI_NoWood ?cI_NoWood ?kI_NoWood ?sa_NoWood ?nf_NoWood_word ?nf_NoWood_name ?ac_NoTree ?xl_NoTree ?xe_NoTree ?xt_NoTree ?xk_NoTree ?xi_NoTree ?xs_NoTree ?g1_NoTree ?g2_NoTree ?g3_NoTree ?g4_NoTree ?g5_NoTree ?g6_NoTree ?g7_NoTree ?iI_NoTree ?tI_NoTree ?lI_NoTree ?cI_NoTree ?kI_NoTree ?sa_NoTree ?nf_NoTree_at ?ac_NoWord ?xl_NoWord ?xe_NoWord ?xt_NoWord ?xk_NoWord ?xi_NoWord ?xs_NoWord ?g1_NoWord ?g2_NoWord ?g3_NoWord ?g4_NoWord ?g5_NoWord ?g6_NoWord ?g7_NoWord ?iI_NoWord ?tI_NoWord ?lI_NoWord ?cI_NoWord ?kI_NoWord ?sa_NoWord ?nf_NoWord_at ?ac_TooLong ?xl_TooLong ?xe_TooLong ?xt_TooLong ?xk_TooLong ?xi_TooLong ?xs_TooLong ?g1_TooLong ?g2_TooLong ?g3_TooLong ?g4_TooLong ?g5_TooLong ?g6_TooLong ?g7_TooLong ?iI_TooLong ?tI_TooLong ?lI_TooLong ?cI_TooLong ?kI_TooLong ?sa_TooLong ?nf_TooLong_most ?ac_NoReader ?xl_NoReader ?xe_NoReader ?xt_NoReader ?xk_NoReader ?xi_NoReader ?xs_NoReader ?g1_NoReader ?g2_NoReader ?g3_NoReader ?g4_NoReader ?g5_NoReader ?g6_NoReader ?g7_NoReader ?iI_NoReader ?tI_NoReader ?lI_NoReader ?cI_NoReader ?kI_NoReader ?sa_NoReader ?nf_NoReader_word ?nf_NoReader_maker ?ac_NoFit ?xl_NoFit ?xe_NoFit ?xt_NoFit ?xk_NoFit ?xi_NoFit ?xs_NoFit ?g1_NoFit ?g2_NoFit ?g3_NoFit ?g4_NoFit ?g5_NoFit ?g6_NoFit ?g7_NoFit ?iI_NoFit ?tI_NoFit ?lI_NoFit ?cI_NoFit ?kI_NoFit ?sa_NoFit ?nf_NoFit_at ?ac_NoPrinter ?xl_NoPrinter ?xe_NoPrinter ?xt_NoPrinter ?xk_NoPrinter ?xi_NoPrinter ?xs_NoPrinter ?g1_NoPrinter ?g2_NoPrinter ?g3_NoPrinter ?g4_NoPrinter ?g5_NoPrinter ?g6_NoPrinter ?g7_NoPrinter ?iI_NoPrinter ?tI_NoPrinter ?lI_NoPrinter ?cI_NoPrinter ?kI_NoPrinter ?sa_NoPrinter ?nf_NoPrinter_word ?nf_NoPrinter_maker ?ac_NoTurner ?xl_NoTurner ?xe_NoTurner ?xt_NoTurner ?xk_NoTurner ?xi_NoTurner ?xs_NoTurner ?g1_NoTurner ?g2_NoTurner ?g3_NoTurner ?g4_NoTurner ?g5_NoTurner ?g6_NoTurner ?g7_NoTurner ?iI_NoTurner ?tI_NoTurner ?lI_NoTurner ?cI_NoTurner ?kI_NoTurner ?sa_NoTurner ?nf_NoTurner_word ?nf_NoTurner_maker ?ac_TooWide ?xl_TooWide ?xe_TooWide ?xt_TooWide ?xk_TooWide ?xi_TooWide ?xs_TooWide ?g1_TooWide ?g2_TooWide ?g3_TooWide ?g4_TooWide ?g5_TooWide ?g6_TooWide ?g7_TooWide ?iI_TooWide ?tI_TooWide ?lI_TooWide ?cI_TooWide ?kI_TooWide ?sa_TooWide ?nf_TooWide_rooms ?ac_NoRow ?xl_NoRow ?xe_NoRow ?xt_NoRow ?xk_NoRow ?xi_NoRow ?xs_NoRow ?g1_NoRow ?g2_NoRow ?g3_NoRow ?g4_NoRow ?g5_NoRow ?g6_NoRow ?g7_NoRow ?iI_NoRow ?tI_NoRow ?lI_NoRow ?cI_NoRow ?kI_NoRow ?sa_NoRow ?ac_Nought ?xl_Nought ?xe_Nought ?xt_Nought ?xk_Nought ?xi_Nought ?xs_Nought ?g1_Nought ?g2_Nought ?g3_Nought ?g4_Nought ?g5_Nought ?g6_Nought ?g7_Nought ?iI_Nought ?tI_Nought ?lI_Nought ?cI_Nought ?kI_Nought ?sa_Nought ?ac_NotKept ?xl_NotKept ?xe_NotKept ?xt_NotKept ?xk_NotKept ?xi_NotKept ?xs_NotKept ?g1_NotKept ?g2_NotKept ?g3_NotKept ?g4_NotKept ?g5_NotKept ?g6_NotKept ?g7_NotKept ?iI_NotKept ?tI_NotKept ?lI_NotKept ?cI_NotKept ?kI_NotKept ?sa_NotKept ?nf_NotKept_name ?ac_NoBox ?xl_NoBox ?xe_NoBox ?xt_NoBox ?xk_NoBox ?xi_NoBox ?xs_NoBox ?g1_NoBox ?g2_NoBox ?g3_NoBox ?g4_NoBox ?g5_NoBox ?g6_NoBox ?g7_NoBox ?iI_NoBox ?tI_NoBox ?lI_NoBox ?cI_NoBox ?kI_NoBox ?sa_NoBox ?nf_NoBox_box ?vb_IndexError ?vb_KeyError ?vb_ValueError ?vb_ZeroDivisionError ?ysk_0_1 ?ysk_0_2 ?ysk_0_3 ?ysk_0_4 ?ysk_0_5 ?ysk_0_6 ?ysk_0_7 ?ysk_0_8 ?ysk_0_9 ?ysk_0_10 ?ysk_0_11 ?ysk_0_12 ?ysk_0_13 ?ysk_1_0 ?ysk_1_2 ?ysk_1_3 ?ysk_1_4 ?ysk_1_5 ?ysk_1_6 ?ysk_1_7 ?ysk_1_8 ?ysk_1_9 ?ysk_1_10 ?ysk_1_11 ?ysk_1_12 ?ysk_1_13 ?ysk_2_0 ?ysk_2_1 ?ysk_2_3 ?ysk_2_4 ?ysk_2_5 ?ysk_2_6 ?ysk_2_7 ?ysk_2_8 ?ysk_2_9 ?ysk_2_10 ?ysk_2_11 ?ysk_2_12 ?ysk_2_13 ?ysk_3_0 ?ysk_3_1 ?ysk_3_2 ?ysk_3_4 ?ysk_3_5 ?ysk_3_6 ?ysk_3_7 ?ysk_3_8 ?ysk_3_9 ?ysk_3_10 ?ysk_3_11 ?ysk_3_12 ?ysk_3_13 ?ysk_4_0 ?ysk_4_1 ?ysk_4_2 ?ysk_4_3 ?ysk_4_5 ?ysk_4_6 ?ysk_4_7 ?ysk_4_8 ?ysk_4_9 ?ysk_4_10 ?ysk_4_11 ?ysk_4_12 ?ysk_4_13 ?ysk_5_0 ?ysk_5_1 ?ysk_5_2 ?ysk_5_3 ?ysk_5_4 ?ysk_5_6 ?ysk_5_7 ?ysk_5_8 ?ysk_5_9 ?ysk_5_10 ?ysk_5_11 ?ysk_5_12 ?ysk_5_13 ?ysk_6_0 ?ysk_6_1 ?ysk_6_2 ?ysk_6_3 ?ysk_6_4 ?ysk_6_5 ?ysk_6_7 ?ysk_6_8 ?ysk_6_9 ?ysk_6_10 ?ysk_6_11 ?ysk_6_12 ?ysk_6_13 ?ysk_7_0 ?ysk_7_1 ?ysk_7_2 ?ysk_7_3 ?ysk_7_4 ?ysk_7_5 ?ysk_7_6 ?ysk_7_8 ?ysk_7_9 ?ysk_7_10 ?ysk_7_11 ?ysk_7_12 ?ysk_7_13 ?ysk_8_0 ?ysk_8_1 ?ysk_8_2 ?ysk_8_3 ?ysk_8_4 ?ysk_8_5 ?ysk_8_6 ?ysk_8_7 ?ysk_8_9 ?ysk_8_10 ?ysk_8_11 ?ysk_8_12 ?ysk_8_13 ?ysk_9_0 ?ysk_9_1 ?ysk_9_2 ?ysk_9_3 ?ysk_9_4 ?ysk_9_5 ?ysk_9_6 ?ysk_9_7 ?ysk_9_8 ?ysk_9_10 ?ysk_9_11 ?ysk_9_12 ?ysk_9_13 ?ysk_10_0 ?ysk_10_1 ?ysk_10_2 ?ysk_10_3 ?ysk_10_4 ?ysk_10_5 ?ysk_10_6 ?ysk_10_7 ?ysk_10_8 ?ysk_10_9 ?ysk_10_11 ?ysk_10_12 ?ysk_10_13 ?ysk_11_0 ?ysk_11_1 ?ysk_11_2 ?ysk_11_3 ?ysk_11_4 ?ysk_11_5 ?ysk_11_6 ?ysk_11_7 ?ysk_11_8 ?ysk_11_9 ?ysk_11_10 ?ysk_11_12 ?ysk_11_13 ?ysk_12_0 ?ysk_12_1 ?ysk_12_2 ?ysk_12_3 ?ysk_12_4 ?ysk_12_5 ?ysk_12_6 ?ysk_12_7 ?ysk_12_8 ?ysk_12_9 ?ysk_12_10 ?ysk_12_11 ?ysk_12_13 ?ysk_13_0 ?ysk_13_1 ?ysk_13_2 ?ysk_13_3 ?ysk_13_4 ?ysk_13_5 ?ysk_13_6 ?ysk_13_7 ?ysk_13_8 ?ysk_13_9 ?ysk_13_10 ?ysk_13_11 ?ysk_13_12 ?ysTB ?ysTK ?ysKB ?ysB_0 ?ysV_0 ?ysZ_0 ?ysK_0 ?ysI_0 ?ysB_1 ?ysV_1 ?ysZ_1 ?ysK_1 ?ysI_1 ?ysB_2 ?ysV_2 ?ysZ_2 ?ysK_2 ?ysI_2 ?ysB_3 ?ysV_3 ?ysZ_3 ?ysK_3 ?ysI_3 ?ysB_4 ?ysV_4 ?ysZ_4 ?ysK_4 ?ysI_4 ?ysB_5 ?ysV_5 ?ysZ_5 ?ysK_5 ?ysI_5 ?ysB_6 ?ysV_6 ?ysZ_6 ?ysK_6 ?ysI_6 ?ysB_7 ?ysV_7 ?ysZ_7 ?ysK_7 ?ysI_7 ?ysB_8 ?ysV_8 ?ysZ_8 ?ysK_8 ?ysI_8 ?ysB_9 ?ysV_9 ?ysZ_9 ?ysK_9 ?ysI_9 ?ysB_10 ?ysV_10 ?ysZ_10 ?ysK_10 ?ysI_10 ?ysB_11 ?ysV_11 ?ysZ_11 ?ysK_11 ?ysI_11 ?ysB_12 ?ysV_12 ?ysZ_12 ?ysK_12 ?ysI_12 ?ysB_13 ?ysV_13 ?ysZ_13 ?ysK_13 ?ysI_13 ?a_law_box ?l_law_box ?c_law_box ?k_law_box ?a_law_take ?l_law_take ?c_law_take ?k_law_take ?a_law_made ?l_law_made ?c_law_made ?k_law_made ?a_law_named ?l_law_named ?c_law_named ?k_law_named ?a_law_kinds ?l_law_kinds ?c_law_kinds ?k_law_kinds ?a_law_fields ?l_law_fields ?c_law_fields ?k_law_fields ?a_law_taken ?l_law_taken ?c_law_taken ?k_law_taken ?a_law ?l_law ?c_law ?k_law ?zb_IndexError ?zb_KeyError ?zb_ValueError ?zb_ZeroDivisionError ?zb_enumerate ?zb_int ?zb_isinstance ?zb_len ?zb_range ?zb_zip)
    (case ac_BoughError => k_is)
    (case xl_BoughError => k_is)
    (case xe_BoughError => k_is)
    (case xt_BoughError => k_is)
    (case xk_BoughError => k_is)
    (case xi_BoughError => k_is)
    (case xs_BoughError => k_is)
    (case g1_BoughError => k_is)
    (case g2_BoughError => k_is)
    (case g3_BoughError => k_is)
    (case g4_BoughError => k_is)
    (case g5_BoughError => k_is)
    (case g6_BoughError => k_is)
    (case g7_BoughError => k_is)
    (case h1_BoughError => k_is)
    (case h2_BoughError => k_is)
    (case h3_BoughError => k_is)
    (case ac_NoText => k_is)
    (case xl_NoText => k_is)
    (case xe_NoText => k_is)
    (case xt_NoText => k_is)
    (case xk_NoText => k_is)
    (case xi_NoText => k_is)
    (case xs_NoText => k_is)
    (case g1_NoText => k_is)
    (case g2_NoText => k_is)
    (case g3_NoText => k_is)
    (case g4_NoText => k_is)
    (case g5_NoText => k_is)
    (case g6_NoText => k_is)
    (case g7_NoText => k_is)
    (case iI_NoText => k_is)
    (case tI_NoText => k_is)
    (case lI_NoText => k_is)
    (case cI_NoText => k_is)
    (case kI_NoText => k_is)
    (case sa_NoText => k_is)
    (case nf_NoText_row => k_is)
    (case ac_NoWood => k_is)
    (case xl_NoWood => k_is)
    (case xe_NoWood => k_is)
    (case xt_NoWood => k_is)
    (case xk_NoWood => k_is)
    (case xi_NoWood => k_is)
    (case xs_NoWood => k_is)
    (case g1_NoWood => k_is)
    (case g2_NoWood => k_is)
    (case g3_NoWood => k_is)
    (case g4_NoWood => k_is)
    (case g5_NoWood => k_is)
    (case g6_NoWood => k_is)
    (case g7_NoWood => k_is)
    (case iI_NoWood => k_is)
    (case tI_NoWood => k_is)
    (case lI_NoWood => k_is)
    (case cI_NoWood => k_is)
    (case kI_NoWood => k_is)
    (case sa_NoWood => k_is)
    (case nf_NoWood_word => k_is)
    (case nf_NoWood_name => k_is)
    (case ac_NoTree => k_is)
    (case xl_NoTree => k_is)
    (case xe_NoTree => k_is)
    (case xt_NoTree => k_is)
    (case xk_NoTree => k_is)
    (case xi_NoTree => k_is)
    (case xs_NoTree => k_is)
    (case g1_NoTree => k_is)
    (case g2_NoTree => k_is)
    (case g3_NoTree => k_is)
    (case g4_NoTree => k_is)
    (case g5_NoTree => k_is)
    (case g6_NoTree => k_is)
    (case g7_NoTree => k_is)
    (case iI_NoTree => k_is)
    (case tI_NoTree => k_is)
    (case lI_NoTree => k_is)
    (case cI_NoTree => k_is)
    (case kI_NoTree => k_is)
    (case sa_NoTree => k_is)
    (case nf_NoTree_at => k_is)
    (case ac_NoWord => k_is)
    (case xl_NoWord => k_is)
    (case xe_NoWord => k_is)
    (case xt_NoWord => k_is)
    (case xk_NoWord => k_is)
    (case xi_NoWord => k_is)
    (case xs_NoWord => k_is)
    (case g1_NoWord => k_is)
    (case g2_NoWord => k_is)
    (case g3_NoWord => k_is)
    (case g4_NoWord => k_is)
    (case g5_NoWord => k_is)
    (case g6_NoWord => k_is)
    (case g7_NoWord => k_is)
    (case iI_NoWord => k_is)
    (case tI_NoWord => k_is)
    (case lI_NoWord => k_is)
    (case cI_NoWord => k_is)
    (case kI_NoWord => k_is)
    (case sa_NoWord => k_is)
    (case nf_NoWord_at => k_is)
    (case ac_TooLong => k_is)
    (case xl_TooLong => k_is)
    (case xe_TooLong => k_is)
    (case xt_TooLong => k_is)
    (case xk_TooLong => k_is)
    (case xi_TooLong => k_is)
    (case xs_TooLong => k_is)
    (case g1_TooLong => k_is)
    (case g2_TooLong => k_is)
    (case g3_TooLong => k_is)
    (case g4_TooLong => k_is)
    (case g5_TooLong => k_is)
    (case g6_TooLong => k_is)
    (case g7_TooLong => k_is)
    (case iI_TooLong => k_is)
    (case tI_TooLong => k_is)
    (case lI_TooLong => k_is)
    (case cI_TooLong => k_is)
    (case kI_TooLong => k_is)
    (case sa_TooLong => k_is)
    (case nf_TooLong_most => k_is)
    (case ac_NoReader => k_is)
    (case xl_NoReader => k_is)
    (case xe_NoReader => k_is)
    (case xt_NoReader => k_is)
    (case xk_NoReader => k_is)
    (case xi_NoReader => k_is)
    (case xs_NoReader => k_is)
    (case g1_NoReader => k_is)
    (case g2_NoReader => k_is)
    (case g3_NoReader => k_is)
    (case g4_NoReader => k_is)
    (case g5_NoReader => k_is)
    (case g6_NoReader => k_is)
    (case g7_NoReader => k_is)
    (case iI_NoReader => k_is)
    (case tI_NoReader => k_is)
    (case lI_NoReader => k_is)
    (case cI_NoReader => k_is)
    (case kI_NoReader => k_is)
    (case sa_NoReader => k_is)
    (case nf_NoReader_word => k_is)
    (case nf_NoReader_maker => k_is)
    (case ac_NoFit => k_is)
    (case xl_NoFit => k_is)
    (case xe_NoFit => k_is)
    (case xt_NoFit => k_is)
    (case xk_NoFit => k_is)
    (case xi_NoFit => k_is)
    (case xs_NoFit => k_is)
    (case g1_NoFit => k_is)
    (case g2_NoFit => k_is)
    (case g3_NoFit => k_is)
    (case g4_NoFit => k_is)
    (case g5_NoFit => k_is)
    (case g6_NoFit => k_is)
    (case g7_NoFit => k_is)
    (case iI_NoFit => k_is)
    (case tI_NoFit => k_is)
    (case lI_NoFit => k_is)
    (case cI_NoFit => k_is)
    (case kI_NoFit => k_is)
    (case sa_NoFit => k_is)
    (case nf_NoFit_at => k_is)
    (case ac_NoPrinter => k_is)
    (case xl_NoPrinter => k_is)
    (case xe_NoPrinter => k_is)
    (case xt_NoPrinter => k_is)
    (case xk_NoPrinter => k_is)
    (case xi_NoPrinter => k_is)
    (case xs_NoPrinter => k_is)
    (case g1_NoPrinter => k_is)
    (case g2_NoPrinter => k_is)
    (case g3_NoPrinter => k_is)
    (case g4_NoPrinter => k_is)
    (case g5_NoPrinter => k_is)
    (case g6_NoPrinter => k_is)
    (case g7_NoPrinter => k_is)
    (case iI_NoPrinter => k_is)
    (case tI_NoPrinter => k_is)
    (case lI_NoPrinter => k_is)
    (case cI_NoPrinter => k_is)
    (case kI_NoPrinter => k_is)
    (case sa_NoPrinter => k_is)
    (case nf_NoPrinter_word => k_is)
    (case nf_NoPrinter_maker => k_is)
    (case ac_NoTurner => k_is)
    (case xl_NoTurner => k_is)
    (case xe_NoTurner => k_is)
    (case xt_NoTurner => k_is)
    (case xk_NoTurner => k_is)
    (case xi_NoTurner => k_is)
    (case xs_NoTurner => k_is)
    (case g1_NoTurner => k_is)
    (case g2_NoTurner => k_is)
    (case g3_NoTurner => k_is)
    (case g4_NoTurner => k_is)
    (case g5_NoTurner => k_is)
    (case g6_NoTurner => k_is)
    (case g7_NoTurner => k_is)
    (case iI_NoTurner => k_is)
    (case tI_NoTurner => k_is)
    (case lI_NoTurner => k_is)
    (case cI_NoTurner => k_is)
    (case kI_NoTurner => k_is)
    (case sa_NoTurner => k_is)
    (case nf_NoTurner_word => k_is)
    (case nf_NoTurner_maker => k_is)
    (case ac_TooWide => k_is)
    (case xl_TooWide => k_is)
    (case xe_TooWide => k_is)
    (case xt_TooWide => k_is)
    (case xk_TooWide => k_is)
    (case xi_TooWide => k_is)
    (case xs_TooWide => k_is)
    (case g1_TooWide => k_is)
    (case g2_TooWide => k_is)
    (case g3_TooWide => k_is)
    (case g4_TooWide => k_is)
    (case g5_TooWide => k_is)
    (case g6_TooWide => k_is)
    (case g7_TooWide => k_is)
    (case iI_TooWide => k_is)
    (case tI_TooWide => k_is)
    (case lI_TooWide => k_is)
    (case cI_TooWide => k_is)
    (case kI_TooWide => k_is)
    (case sa_TooWide => k_is)
    (case nf_TooWide_rooms => k_is)
    (case ac_NoRow => k_is)
    (case xl_NoRow => k_is)
    (case xe_NoRow => k_is)
    (case xt_NoRow => k_is)
    (case xk_NoRow => k_is)
    (case xi_NoRow => k_is)
    (case xs_NoRow => k_is)
    (case g1_NoRow => k_is)
    (case g2_NoRow => k_is)
    (case g3_NoRow => k_is)
    (case g4_NoRow => k_is)
    (case g5_NoRow => k_is)
    (case g6_NoRow => k_is)
    (case g7_NoRow => k_is)
    (case iI_NoRow => k_is)
    (case tI_NoRow => k_is)
    (case lI_NoRow => k_is)
    (case cI_NoRow => k_is)
    (case kI_NoRow => k_is)
    (case sa_NoRow => k_is)
    (case ac_Nought => k_is)
    (case xl_Nought => k_is)
    (case xe_Nought => k_is)
    (case xt_Nought => k_is)
    (case xk_Nought => k_is)
    (case xi_Nought => k_is)
    (case xs_Nought => k_is)
    (case g1_Nought => k_is)
    (case g2_Nought => k_is)
    (case g3_Nought => k_is)
    (case g4_Nought => k_is)
    (case g5_Nought => k_is)
    (case g6_Nought => k_is)
    (case g7_Nought => k_is)
    (case iI_Nought => k_is)
    (case tI_Nought => k_is)
    (case lI_Nought => k_is)
    (case cI_Nought => k_is)
    (case kI_Nought => k_is)
    (case sa_Nought => k_is)
    (case ac_NotKept => k_is)
    (case xl_NotKept => k_is)
    (case xe_NotKept => k_is)
    (case xt_NotKept => k_is)
    (case xk_NotKept => k_is)
    (case xi_NotKept => k_is)
    (case xs_NotKept => k_is)
    (case g1_NotKept => k_is)
    (case g2_NotKept => k_is)
    (case g3_NotKept => k_is)
    (case g4_NotKept => k_is)
    (case g5_NotKept => k_is)
    (case g6_NotKept => k_is)
    (case g7_NotKept => k_is)
    (case iI_NotKept => k_is)
    (case tI_NotKept => k_is)
    (case lI_NotKept => k_is)
    (case cI_NotKept => k_is)
    (case kI_NotKept => k_is)
    (case sa_NotKept => k_is)
    (case nf_NotKept_name => k_is)
    (case ac_NoBox => k_is)
    (case xl_NoBox => k_is)
    (case xe_NoBox => k_is)
    (case xt_NoBox => k_is)
    (case xk_NoBox => k_is)
    (case xi_NoBox => k_is)
    (case xs_NoBox => k_is)
    (case g1_NoBox => k_is)
    (case g2_NoBox => k_is)
    (case g3_NoBox => k_is)
    (case g4_NoBox => k_is)
    (case g5_NoBox => k_is)
    (case g6_NoBox => k_is)
    (case g7_NoBox => k_is)
    (case iI_NoBox => k_is)
    (case tI_NoBox => k_is)
    (case lI_NoBox => k_is)
    (case cI_NoBox => k_is)
    (case kI_NoBox => k_is)
    (case sa_NoBox => k_is)
    (case nf_NoBox_box => k_is)
    (case vb_IndexError => k_is)
    (case vb_KeyError => k_is)
    (case vb_ValueError => k_is)
    (case vb_ZeroDivisionError => k_is)
    (case ysk_0_1 => k_is)
    (case ysk_0_2 => k_is)
    (case ysk_0_3 => k_is)
    (case ysk_0_4 => k_is)
    (case ysk_0_5 => k_is)
    (case ysk_0_6 => k_is)
    (case ysk_0_7 => k_is)
    (case ysk_0_8 => k_is)
    (case ysk_0_9 => k_is)
    (case ysk_0_10 => k_is)
    (case ysk_0_11 => k_is)
    (case ysk_0_12 => k_is)
    (case ysk_0_13 => k_is)
    (case ysk_1_0 => k_is)
    (case ysk_1_2 => k_is)
    (case ysk_1_3 => k_is)
    (case ysk_1_4 => k_is)
    (case ysk_1_5 => k_is)
    (case ysk_1_6 => k_is)
    (case ysk_1_7 => k_is)
    (case ysk_1_8 => k_is)
    (case ysk_1_9 => k_is)
    (case ysk_1_10 => k_is)
    (case ysk_1_11 => k_is)
    (case ysk_1_12 => k_is)
    (case ysk_1_13 => k_is)
    (case ysk_2_0 => k_is)
    (case ysk_2_1 => k_is)
    (case ysk_2_3 => k_is)
    (case ysk_2_4 => k_is)
    (case ysk_2_5 => k_is)
    (case ysk_2_6 => k_is)
    (case ysk_2_7 => k_is)
    (case ysk_2_8 => k_is)
    (case ysk_2_9 => k_is)
    (case ysk_2_10 => k_is)
    (case ysk_2_11 => k_is)
    (case ysk_2_12 => k_is)
    (case ysk_2_13 => k_is)
    (case ysk_3_0 => k_is)
    (case ysk_3_1 => k_is)
    (case ysk_3_2 => k_is)
    (case ysk_3_4 => k_is)
    (case ysk_3_5 => k_is)
    (case ysk_3_6 => k_is)
    (case ysk_3_7 => k_is)
    (case ysk_3_8 => k_is)
    (case ysk_3_9 => k_is)
    (case ysk_3_10 => k_is)
    (case ysk_3_11 => k_is)
    (case ysk_3_12 => k_is)
    (case ysk_3_13 => k_is)
    (case ysk_4_0 => k_is)
    (case ysk_4_1 => k_is)
    (case ysk_4_2 => k_is)
    (case ysk_4_3 => k_is)
    (case ysk_4_5 => k_is)
    (case ysk_4_6 => k_is)
    (case ysk_4_7 => k_is)
    (case ysk_4_8 => k_is)
    (case ysk_4_9 => k_is)
    (case ysk_4_10 => k_is)
    (case ysk_4_11 => k_is)
    (case ysk_4_12 => k_is)
    (case ysk_4_13 => k_is)
    (case ysk_5_0 => k_is)
    (case ysk_5_1 => k_is)
    (case ysk_5_2 => k_is)
    (case ysk_5_3 => k_is)
    (case ysk_5_4 => k_is)
    (case ysk_5_6 => k_is)
    (case ysk_5_7 => k_is)
    (case ysk_5_8 => k_is)
    (case ysk_5_9 => k_is)
    (case ysk_5_10 => k_is)
    (case ysk_5_11 => k_is)
    (case ysk_5_12 => k_is)
    (case ysk_5_13 => k_is)
    (case ysk_6_0 => k_is)
    (case ysk_6_1 => k_is)
    (case ysk_6_2 => k_is)
    (case ysk_6_3 => k_is)
    (case ysk_6_4 => k_is)
    (case ysk_6_5 => k_is)
    (case ysk_6_7 => k_is)
    (case ysk_6_8 => k_is)
    (case ysk_6_9 => k_is)
    (case ysk_6_10 => k_is)
    (case ysk_6_11 => k_is)
    (case ysk_6_12 => k_is)
    (case ysk_6_13 => k_is)
    (case ysk_7_0 => k_is)
    (case ysk_7_1 => k_is)
    (case ysk_7_2 => k_is)
    (case ysk_7_3 => k_is)
    (case ysk_7_4 => k_is)
    (case ysk_7_5 => k_is)
    (case ysk_7_6 => k_is)
    (case ysk_7_8 => k_is)
    (case ysk_7_9 => k_is)
    (case ysk_7_10 => k_is)
    (case ysk_7_11 => k_is)
    (case ysk_7_12 => k_is)
    (case ysk_7_13 => k_is)
    (case ysk_8_0 => k_is)
    (case ysk_8_1 => k_is)
    (case ysk_8_2 => k_is)
    (case ysk_8_3 => k_is)
    (case ysk_8_4 => k_is)
    (case ysk_8_5 => k_is)
    (case ysk_8_6 => k_is)
    (case ysk_8_7 => k_is)
    (case ysk_8_9 => k_is)
    (case ysk_8_10 => k_is)
    (case ysk_8_11 => k_is)
    (case ysk_8_12 => k_is)
    (case ysk_8_13 => k_is)
    (case ysk_9_0 => k_is)
    (case ysk_9_1 => k_is)
    (case ysk_9_2 => k_is)
    (case ysk_9_3 => k_is)
    (case ysk_9_4 => k_is)
    (case ysk_9_5 => k_is)
    (case ysk_9_6 => k_is)
    (case ysk_9_7 => k_is)
    (case ysk_9_8 => k_is)
    (case ysk_9_10 => k_is)
    (case ysk_9_11 => k_is)
    (case ysk_9_12 => k_is)
    (case ysk_9_13 => k_is)
    (case ysk_10_0 => k_is)
    (case ysk_10_1 => k_is)
    (case ysk_10_2 => k_is)
    (case ysk_10_3 => k_is)
    (case ysk_10_4 => k_is)
    (case ysk_10_5 => k_is)
    (case ysk_10_6 => k_is)
    (case ysk_10_7 => k_is)
    (case ysk_10_8 => k_is)
    (case ysk_10_9 => k_is)
    (case ysk_10_11 => k_is)
    (case ysk_10_12 => k_is)
    (case ysk_10_13 => k_is)
    (case ysk_11_0 => k_is)
    (case ysk_11_1 => k_is)
    (case ysk_11_2 => k_is)
    (case ysk_11_3 => k_is)
    (case ysk_11_4 => k_is)
    (case ysk_11_5 => k_is)
    (case ysk_11_6 => k_is)
    (case ysk_11_7 => k_is)
    (case ysk_11_8 => k_is)
    (case ysk_11_9 => k_is)
    (case ysk_11_10 => k_is)
    (case ysk_11_12 => k_is)
    (case ysk_11_13 => k_is)
    (case ysk_12_0 => k_is)
    (case ysk_12_1 => k_is)
    (case ysk_12_2 => k_is)
    (case ysk_12_3 => k_is)
    (case ysk_12_4 => k_is)
    (case ysk_12_5 => k_is)
    (case ysk_12_6 => k_is)
    (case ysk_12_7 => k_is)
    (case ysk_12_8 => k_is)
    (case ysk_12_9 => k_is)
    (case ysk_12_10 => k_is)
    (case ysk_12_11 => k_is)
    (case ysk_12_13 => k_is)
    (case ysk_13_0 => k_is)
    (case ysk_13_1 => k_is)
    (case ysk_13_2 => k_is)
    (case ysk_13_3 => k_is)
    (case ysk_13_4 => k_is)
    (case ysk_13_5 => k_is)
    (case ysk_13_6 => k_is)
    (case ysk_13_7 => k_is)
    (case ysk_13_8 => k_is)
    (case ysk_13_9 => k_is)
    (case ysk_13_10 => k_is)
    (case ysk_13_11 => k_is)
    (case ysk_13_12 => k_is)
    (case ysTB => k_is)
    (case ysTK => k_is)
    (case ysKB => k_is)
    (case ysB_0 => k_is)
    (case ysV_0 => k_is)
    (case ysZ_0 => k_is)
    (case ysK_0 => k_is)
    (case ysI_0 => k_is)
    (case ysB_1 => k_is)
    (case ysV_1 => k_is)
    (case ysZ_1 => k_is)
    (case ysK_1 => k_is)
    (case ysI_1 => k_is)
    (case ysB_2 => k_is)
    (case ysV_2 => k_is)
    (case ysZ_2 => k_is)
    (case ysK_2 => k_is)
    (case ysI_2 => k_is)
    (case ysB_3 => k_is)
    (case ysV_3 => k_is)
    (case ysZ_3 => k_is)
    (case ysK_3 => k_is)
    (case ysI_3 => k_is)
    (case ysB_4 => k_is)
    (case ysV_4 => k_is)
    (case ysZ_4 => k_is)
    (case ysK_4 => k_is)
    (case ysI_4 => k_is)
    (case ysB_5 => k_is)
    (case ysV_5 => k_is)
    (case ysZ_5 => k_is)
    (case ysK_5 => k_is)
    (case ysI_5 => k_is)
    (case ysB_6 => k_is)
    (case ysV_6 => k_is)
    (case ysZ_6 => k_is)
    (case ysK_6 => k_is)
    (case ysI_6 => k_is)
    (case ysB_7 => k_is)
    (case ysV_7 => k_is)
    (case ysZ_7 => k_is)
    (case ysK_7 => k_is)
    (case ysI_7 => k_is)
    (case ysB_8 => k_is)
    (case ysV_8 => k_is)
    (case ysZ_8 => k_is)
    (case ysK_8 => k_is)
    (case ysI_8 => k_is)
    (case ysB_9 => k_is)
    (case ysV_9 => k_is)
    (case ysZ_9 => k_is)
    (case ysK_9 => k_is)
    (case ysI_9 => k_is)
    (case ysB_10 => k_is)
    (case ysV_10 => k_is)
    (case ysZ_10 => k_is)
    (case ysK_10 => k_is)
    (case ysI_10 => k_is)
    (case ysB_11 => k_is)
    (case ysV_11 => k_is)
    (case ysZ_11 => k_is)
    (case ysK_11 => k_is)
    (case ysI_11 => k_is)
    (case ysB_12 => k_is)
    (case ysV_12 => k_is)
    (case ysZ_12 => k_is)
    (case ysK_12 => k_is)
    (case ysI_12 => k_is)
    (case ysB_13 => k_is)
    (case ysV_13 => k_is)
    (case ysZ_13 => k_is)
    (case ysK_13 => k_is)
    (case ysI_13 => k_is)
    (case a_law_box => k_is)
    (case l_law_box => k_is)
    (case c_law_box => k_is)
    (case k_law_box => k_is)
    (case a_law_take => k_is)
    (case l_law_take => k_is)
    (case c_law_take => k_is)
    (case k_law_take => k_is)
    (case a_law_made => k_is)
    (case l_law_made => k_is)
    (case c_law_made => k_is)
    (case k_law_made => k_is)
    (case a_law_named => k_is)
    (case l_law_named => k_is)
    (case c_law_named => k_is)
    (case k_law_named => k_is)
    (case a_law_kinds => k_is)
    (case l_law_kinds => k_is)
    (case c_law_kinds => k_is)
    (case k_law_kinds => k_is)
    (case a_law_fields => k_is)
    (case l_law_fields => k_is)
    (case c_law_fields => k_is)
    (case k_law_fields => k_is)
    (case a_law_taken => k_is)
    (case l_law_taken => k_is)
    (case c_law_taken => k_is)
    (case k_law_taken => k_is)
    (case a_law => k_is)
    (case l_law => k_is)
    (case c_law => k_is)
    (case k_law => k_is)
    (case zb_IndexError => k_is)
    (case zb_KeyError => k_is)
    (case zb_ValueError => k_is)
    (case zb_ZeroDivisionError => k_is)
    (case zb_enumerate => k_is)
    (case zb_int => k_is)
    (case zb_isinstance => k_is)
    (case zb_len => k_is)
    (case zb_range => k_is)
    (case zb_zip => k_is)
#print axioms PySem.Challenge.cw_boughkept_k05_refusals_holds
