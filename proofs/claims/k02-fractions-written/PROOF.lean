import PyProof.Rows.All
import Wide.All
import OpenK.AllK
import Wide.FinOn
import HandS.ForMost
import HandS.ForExc
import HandS.Wide
import HandS.IsInst
import HandS.ExcIs
import HandS.ExcInit
import HandS.Flow
import HandS.Zip
import HandS.TupAny
import HandS.TupLe
import HandS.ListItems
import HandS.Defaults
import HandS.Text
import HandS.SetKeys
import HandS.ExcField
import HandS.StrMore
import HandS.Walk
import HandS.Codes
import KE.KDictZip
import KE.KDictItemsList
import HandS.Iter
import KE.GoesMore
import HandS.TupMul
import HandS.More
import KE.KExcIs
import PyProof.StrOps2
import PyProof.FactsAll.tuple_2
import KE.GoesEnumKw
import HandS.Replace
import PyProof.ToksMono
import HandS.MakeKw
import HandS.Rev
import KE.KDictPairs
import KE.DataFind
import KE.GoesZip
import KE.KeyNested
import PyProof.ListStr
import HandS.TupLen
import HandS.Conv
import PyProof.DictMoreH
import KE.DataMinMax
import HandS.Deep
import PyProof.SumAny
import KE.IntTextLaws
import HandS.IntHex
import HandS.FStr
import HandS.ExcInitHot
import HandS.SuiteRaise
import HandS.Style
import PyProof.Rows.StrOr
import KE.KIntText
import PySem.Challenge.RW_boughkept_k02_fractions_written
set_option pp.maxSteps 1200
set_option Elab.async false
set_option linter.all false
set_option maxRecDepth 100000
set_option maxHeartbeats 4000000
set_option Elab.async false
set_option linter.all false
set_option maxRecDepth 100000
set_option maxHeartbeats 4000000
/-! Bk1: readings that compute by themselves, over the hand layer. -/
namespace Bk
open PySem PySem.Spec PyProof.Rows L2
/-! ### heaps: what is kept -/
/-- every tracked object stands as it stood -/
def Ex (H H' : Hp) : Prop := ∀ a o, H a = some o → H' a = some o
/-- .. but what stands at l -/
def But (l : Addr) (H H' : Hp) : Prop := ∀ a o, a ≠ l → H a = some o → H' a = some o
/-- the tuples stand -/
def Tk (H H' : Hp) : Prop := ∀ a xs, H a = some (.tup xs) → H' a = some (.tup xs)
theorem Ex.refl (H : Hp) : Ex H H := fun _ _ h => h
theorem Ex.trans {H H1 H2 : Hp} (a : Ex H H1) (b : Ex H1 H2) : Ex H H2 := fun x o h => b x o (a x o h)
theorem Ex.new {H : Hp} {p : Addr} {o : HO} (h : H p = none) : Ex H (upd H p o) := fun a u e => by
  rw [upd_ne (ne_of_none e h)]
  exact e
theorem Ex.at_new {H H' : Hp} {p : Addr} {o : HO} (x : Ex H H') (h : H p = none) : Ex H (upd H' p o) := fun a u e => by
  rw [upd_ne (ne_of_none e h)]
  exact x a u e
theorem Ex.free {H H' : Hp} {p : Addr} (e : Ex H H') (h : H' p = none) : H p = none := by
  cases q : H p with
  | none => rfl
  | some o => rw [e p o q] at h; cases h
theorem Ex.but {H H' : Hp} (l : Addr) (e : Ex H H') : But l H H' := fun a o _ h => e a o h
theorem Ex.of_but {H H' : Hp} {l : Addr} (e : But l H H') (h : H l = none) : Ex H H' := fun a o q => e a o (ne_of_none q h) q
theorem But.refl (l : Addr) (H : Hp) : But l H H := fun _ _ _ h => h
theorem But.trans {l : Addr} {H H1 H2 : Hp} (a : But l H H1) (b : But l H1 H2) : But l H H2 := fun x o n h => b x o n (a x o n h)
theorem But.upd {l : Addr} {H H' : Hp} {o : HO} (a : But l H H') : But l H (upd H' l o) := fun x u n h => by
  rw [upd_ne n]
  exact a x u n h
theorem But.get {l a : Addr} {H H' : Hp} {o u : HO} (b : But l H H') (hl : H l = some u) (h : H a = some o) (d : o ≠ u) : H' a = some o := b a o (ne_of h hl d) h
theorem Ex.tk {H H' : Hp} (e : Ex H H') : Tk H H' := fun a xs h => e a _ h
theorem But.tk {l : Addr} {H H' : Hp} {u : HO} (b : But l H H') (hl : H l = some u) (d : ∀ xs, HO.tup xs ≠ u) : Tk H H' := fun a xs h => b.get hl h (d xs)
theorem But.tkl {l : Addr} {H H' : Hp} {ys : List V} (b : But l H H') (hl : H l = some (.lst ys)) : Tk H H' := b.tk hl fun _ z => nomatch z
theorem Tk.refl (H : Hp) : Tk H H := fun _ _ h => h
theorem Tk.trans {H H1 H2 : Hp} (a : Tk H H1) (b : Tk H1 H2) : Tk H H2 := fun x o h => b x o (a x o h)
theorem sqL {K : PySem.W.Frag} {H : Hp} {a : Addr} {xs : List V} (h : H a = some (.lst xs)) : SqL K H a xs := .inl (.inl h)
theorem sqT {K : PySem.W.Frag} {H : Hp} {a : Addr} {xs : List V} (h : H a = some (.tup xs)) : SqT K H a xs := .inl (.inl h)
theorem Ex.seqL {K : PySem.W.Frag} {H H' : Hp} {a : Addr} {xs : List V} (e : Ex H H') (h : SqL K H a xs) : SqL K H' a xs := by
  rcases h with (h | ⟨o, h⟩) | h
  · exact .inl (.inl (e _ _ h))
  · exact .inl (.inr ⟨o, e _ _ h⟩)
  · exact .inr h
theorem But.seqL {K : PySem.W.Frag} {l : Addr} {H H' : Hp} {a : Addr} {xs : List V} (e : But l H H') (n : a ≠ l) (h : SqL K H a xs) : SqL K H' a xs := by
  rcases h with (h | ⟨o, h⟩) | h
  · exact .inl (.inl (e _ _ n h))
  · exact .inl (.inr ⟨o, e _ _ n h⟩)
  · exact .inr h
/-! ### data: what a value stands for -/
inductive D where
  | non | bl (b : Bool) | int (i : Int) | str (s : Str) | tup (ds : List D) | lst (ds : List D)
mutual
def Rep (H : Hp) : D → V → Prop
  | .non, v => v = .non
  | .bl b, v => v = .bl b
  | .int i, v => v = .int i
  | .str s, v => v = .str s
  | .tup ds, v => ∃ a vs, v = .ref a ∧ H a = some (.tup vs) ∧ Reps H ds vs
  | .lst ds, v => ∃ a vs, v = .ref a ∧ H a = some (.lst vs) ∧ Reps H ds vs
def Reps (H : Hp) : List D → List V → Prop
  | [], vs => vs = []
  | d :: ds, vs => ∃ v r, vs = v :: r ∧ Rep H d v ∧ Reps H ds r
end
mutual
/-- tuples and flat things alone -/
def D.hard : D → Bool
  | .lst _ => false
  | .tup ds => D.hards ds
  | .non => true | .bl _ => true | .int _ => true | .str _ => true
def D.hards : List D → Bool
  | [] => true
  | d :: ds => d.hard && D.hards ds
end
mutual
def D.size : D → Nat
  | .tup ds => 1 + D.sizes ds
  | .lst ds => 1 + D.sizes ds
  | .non => 1 | .bl _ => 1 | .int _ => 1 | .str _ => 1
def D.sizes : List D → Nat
  | [] => 0
  | d :: ds => d.size + D.sizes ds
end
theorem D.size_pos (d : D) : 1 ≤ d.size := by cases d <;> simp only [D.size] <;> omega
mutual
theorem Rep.ex {H H' : Hp} (e : Ex H H') : ∀ {d : D} {v : V}, Rep H d v → Rep H' d v
  | .non, _, h => h
  | .bl _, _, h => h
  | .int _, _, h => h
  | .str _, _, h => h
  | .tup ds, _, h => by
    simp only [Rep] at h ⊢
    obtain ⟨a, vs, r, ha, hr⟩ := h
    exact ⟨a, vs, r, e _ _ ha, Reps.ex e hr⟩
  | .lst ds, _, h => by
    simp only [Rep] at h ⊢
    obtain ⟨a, vs, r, ha, hr⟩ := h
    exact ⟨a, vs, r, e _ _ ha, Reps.ex e hr⟩
theorem Reps.ex {H H' : Hp} (e : Ex H H') : ∀ {ds : List D} {vs : List V}, Reps H ds vs → Reps H' ds vs
  | [], _, h => h
  | d :: ds, _, h => by
    simp only [Reps] at h ⊢
    obtain ⟨v, r, x, h1, h2⟩ := h
    exact ⟨v, r, x, Rep.ex e h1, Reps.ex e h2⟩
end
mutual
theorem Rep.tk {H H' : Hp} (e : Tk H H') : ∀ {d : D} {v : V}, d.hard = true → Rep H d v → Rep H' d v
  | .non, _, _, h => h
  | .bl _, _, _, h => h
  | .int _, _, _, h => h
  | .str _, _, _, h => h
  | .lst _, _, z, _ => by simp [D.hard] at z
  | .tup ds, _, z, h => by
    simp only [D.hard] at z
    simp only [Rep] at h ⊢
    obtain ⟨a, vs, r, ha, hr⟩ := h
    exact ⟨a, vs, r, e _ _ ha, Reps.tk e z hr⟩
theorem Reps.tk {H H' : Hp} (e : Tk H H') : ∀ {ds : List D} {vs : List V}, D.hards ds = true → Reps H ds vs → Reps H' ds vs
  | [], _, _, h => h
  | d :: ds, _, z, h => by
    simp only [D.hards, Bool.and_eq_true] at z
    simp only [Reps] at h ⊢
    obtain ⟨v, r, x, h1, h2⟩ := h
    exact ⟨v, r, x, Rep.tk e z.1 h1, Reps.tk e z.2 h2⟩
end
theorem Reps.len {H : Hp} : ∀ {ds : List D} {vs : List V}, Reps H ds vs → vs.length = ds.length
  | [], _, h => by simp only [Reps] at h; rw [h]; rfl
  | d :: ds, _, h => by
    simp only [Reps] at h
    obtain ⟨v, r, x, _, h2⟩ := h
    rw [x, List.length_cons, List.length_cons, Reps.len h2]
theorem Reps.get {H : Hp} : ∀ {ds : List D} {vs : List V} {i : Nat} {v : V}, Reps H ds vs → vs[i]? = some v → ∃ d, ds[i]? = some d ∧ Rep H d v
  | [], _, i, v, h, e => by simp only [Reps] at h; rw [h] at e; simp at e
  | d :: ds, _, 0, v, h, e => by
    simp only [Reps] at h
    obtain ⟨u, r, x, h1, _⟩ := h
    rw [x] at e
    simp at e
    exact ⟨d, rfl, e ▸ h1⟩
  | d :: ds, _, i + 1, v, h, e => by
    simp only [Reps] at h
    obtain ⟨u, r, x, _, h2⟩ := h
    rw [x] at e
    obtain ⟨d', e', r'⟩ := Reps.get (i := i) h2 (by simpa using e)
    exact ⟨d', by simpa using e', r'⟩
theorem Reps.at {H : Hp} : ∀ {ds : List D} {vs : List V} {i : Nat} {d : D}, Reps H ds vs → ds[i]? = some d → ∃ v, vs[i]? = some v ∧ Rep H d v
  | [], _, i, d, h, e => by simp at e
  | d :: ds, _, 0, d', h, e => by
    simp only [Reps] at h
    obtain ⟨u, r, x, h1, _⟩ := h
    simp at e
    exact ⟨u, by rw [x]; rfl, e ▸ h1⟩
  | d :: ds, _, i + 1, d', h, e => by
    simp only [Reps] at h
    obtain ⟨u, r, x, _, h2⟩ := h
    obtain ⟨v', e', r'⟩ := Reps.at (i := i) h2 (by simpa using e)
    exact ⟨v', by rw [x]; simpa using e', r'⟩
theorem Reps.append {H : Hp} : ∀ {ds es : List D} {vs ws : List V}, Reps H ds vs → Reps H es ws → Reps H (ds ++ es) (vs ++ ws)
  | [], _, _, _, h, g => by simp only [Reps] at h; rw [h]; exact g
  | d :: ds, es, _, ws, h, g => by
    simp only [Reps] at h
    obtain ⟨v, r, x, h1, h2⟩ := h
    rw [x]
    simp only [List.cons_append, Reps]
    exact ⟨v, r ++ ws, rfl, h1, Reps.append h2 g⟩
/-! ### weaker readings -/
section
variable {X : Cx}
theorem pe_imp {e : Expr} {t t' : TE} (h : PE X e t) (w : ∀ σ H Q, t' σ H Q → t σ H Q) : PE X e t' := ⟨fun pins s σ H Q I q => h.run pins s σ H Q I (w σ H Q q)⟩
theorem pi_or {tg e : Expr} {t t' : TI} (h : PI X tg e t) (h' : PI X tg e t') : PI X tg e (fun σ H R => t σ H R ∨ t' σ H R) := ⟨fun pins s σ H R I q => by
  rcases q with q | q
  · exact h.run pins s σ H R I q
  · exact h'.run pins s σ H R I q⟩
theorem pe_or {e : Expr} {t t' : TE} (h : PE X e t) (h' : PE X e t') : PE X e (fun σ H R => t σ H R ∨ t' σ H R) := ⟨fun pins s σ H R I q => by
  rcases q with q | q
  · exact h.run pins s σ H R I q
  · exact h'.run pins s σ H R I q⟩
/-- the name that stands in the i-th slot -/
def uV (i : Nat) : TE := fun σ H Q => match σ[i]? with
  | some (some v) => Q v H
  | _ => False
theorem uv (i : Nat) {x : Str} {pos : Pos} (hN : X.N[i]? = some x := by rfl) (hv : Vis X.env.scope x := by first | exact Or.inl rfl | exact Or.inr (Or.inl rfl) | exact Or.inr (Or.inr rfl))
    (hd : (x == ("__debug__" : Str)) = false := by decide) (hcd : (x == ("__classdict__" : Str)) = false := by decide) : PE X (.Name x pos) (uV i) :=
  pe_imp (pv i hN hv hd hcd) fun σ H Q h => by
    unfold uV at h
    split at h
    · exact ⟨_, by assumption, h⟩
    · exact h.elim
theorem g_var {σ : L2.St} {i : Nat} {v : V} {H : Hp} {Q : VK} (e : σ[i]? = some (some v)) (q : Q v H) : uV i σ H Q := by
  unfold uV
  rw [e]
  exact q
/-- a value's truth -/
def uTru (K : PySem.W.Frag) (x : V) (H : Hp) (Q : Bool → Hp → Prop) : Prop := match x with
  | .bl k => Q k H
  | .int i => Q (i != 0) H
  | .non => Q false H
  | .str y => y.length ≤ sizeLine ∧ Q ((y.length : Int) != 0) H
  | .ref p => ∃ k, TruV K (.ref p) H k ∧ Q k H
  | _ => False
theorem uTru_of {K : PySem.W.Frag} {x : V} {H : Hp} {Q : Bool → Hp → Prop} (h : uTru K x H Q) : ∃ k, TruV K x H k ∧ Q k H := by
  unfold uTru at h
  split at h
  · exact ⟨_, rfl, h⟩
  · exact ⟨_, rfl, h⟩
  · exact ⟨_, rfl, h⟩
  · exact ⟨_, ⟨h.1, rfl⟩, h.2⟩
  · exact h
  · exact h.elim
/-- a value as a test -/
def uT (K : PySem.W.Frag) (te : TE) : TT := fun σ H Q => te σ H fun x H1 => uTru K x H1 Q
theorem ut {e : Expr} {te : TE} (h : PE X e te) (he : ∀ whole, isTrue e X.env whole = (do let v ← whole; standAt e.pos; holding [v] (truthy v)) := by intro _; rfl) : PT X e (uT X.K te) := by
  refine ⟨fun pins s σ H Q I q => ?_⟩
  refine isTrue_plain (thn (h.run pins s σ H _ I q) fun v s1 z => ?_) (he _)
  obtain ⟨x, H1, I1, r1, q1⟩ := z
  exact tru_ok pins s1 σ H1 x v Q I1 r1 (uTru_of q1)
/-! ### operators -/
def uAdd (K : PySem.W.Frag) : R2 := fun x y H Q => match x, y with
  | .int i, .int j => Q (.int (i + j)) H
  | .str a, .str b => a.length + b.length ≤ sizeLine ∧ Q (.str (a ++ b)) H
  | .ref p, .ref q => rCat (.ref p) (.ref q) H Q ∨ rCatA K (.ref p) (.ref q) H Q
  | _, _ => False
theorem uo_add : OpR X (binaryOp .Add) (uAdd X.K) := by
  intro pins s σ H x y v u Q I rx ry h
  unfold uAdd at h
  split at h
  · exact op_add pins s σ H _ _ v u Q I rx ry ⟨_, _, rfl, rfl, h⟩
  · exact op_add_str pins s σ H _ _ v u Q I rx ry ⟨_, _, rfl, rfl, h⟩
  · rcases h with h | h
    · exact op_cat pins s σ H _ _ v u Q I rx ry h
    · exact op_catA pins s σ H _ _ v u Q I rx ry h
  · exact h.elim
/-- two ints in -/
def uI (C : Int → Int → Prop) (g : Int → Int → V) : R2 := fun x y H Q => match x, y with
  | .int i, .int j => C i j ∧ Q (g i j) H
  | _, _ => False
def uI0 (g : Int → Int → V) : R2 := fun x y H Q => match x, y with
  | .int i, .int j => Q (g i j) H
  | _, _ => False
theorem ui_of {f : Value → Value → Sem Value} {C : Int → Int → Prop} {g : Int → Int → V} (h : OpR X f (rI C g)) : OpR X f (uI C g) := by
  intro pins s σ H x y v u Q I rx ry q
  unfold uI at q
  split at q
  · exact h pins s σ H _ _ v u Q I rx ry ⟨_, _, rfl, rfl, q.1, q.2⟩
  · exact q.elim
theorem ui0_of {f : Value → Value → Sem Value} {g : Int → Int → V} (h : OpR X f (rI0 g)) : OpR X f (uI0 g) := by
  intro pins s σ H x y v u Q I rx ry q
  unfold uI0 at q
  split at q
  · exact h pins s σ H _ _ v u Q I rx ry ⟨_, _, rfl, rfl, q⟩
  · exact q.elim
abbrev uSub : R2 := uI0 fun i j => .int (i - j)
theorem uo_sub : OpR X (binaryOp .Sub) uSub := ui0_of op_sub
def CMm (i j : Int) : Prop := CMul i j ∨ CMulW i j
abbrev uMul : R2 := uI CMm fun i j => .int (i * j)
theorem uo_mul : OpR X (binaryOp .Mult) uMul := by
  refine ui_of (opI fun _ _ _ _ _ _ _ hc q => ?_)
  rcases hc with hc | hc
  · exact mul_int q hc.ok
  · exact mul_int q hc.ok
theorem mulL {i j : Int} (h : i.natAbs.log2 < 1000) (h2 : j.natAbs.log2 < 900000) : CMulW i j := by
  show _ < _
  omega
/-- // by anything but nought below 2 ^ 9000 -/
def CFd (_ j : Int) : Prop := j ≠ 0 ∧ j.natAbs.log2 < 9000
theorem op_fd : OpR X (binaryOp .FloorDiv) (rI CFd fun i j => .int (i.fdiv j)) := opI fun i j _ _ _ _ _ hc q => floordiv_int hc.1 q (.inl (PyProof.noPylong_of_log2 hc.2))
abbrev uFd : R2 := uI CFd fun i j => .int (i.fdiv j)
theorem uo_fd : OpR X (binaryOp .FloorDiv) uFd := ui_of op_fd
abbrev uMod : R2 := uI (fun _ j => j ≠ 0) fun i j => .int (i.fmod j)
theorem uo_mod : OpR X (binaryOp .Mod) uMod := ui_of op_modN
abbrev uPow : R2 := uI CPow fun i j => .int (i ^ j.toNat)
theorem uo_pow : OpR X (binaryOp .Pow) uPow := ui_of op_pow
abbrev uLt : R2 := uI0 fun i j => .bl (decide (i < j))
theorem uo_lt : OpR X (compareOp .Lt) uLt := ui0_of op_lt
abbrev uLe : R2 := uI0 fun i j => .bl (decide (i ≤ j))
theorem uo_le : OpR X (compareOp .LtE) uLe := ui0_of op_le
abbrev uGt : R2 := uI0 fun i j => .bl (decide (j < i))
theorem uo_gt : OpR X (compareOp .Gt) uGt := ui0_of op_gt
abbrev uGe : R2 := uI0 fun i j => .bl (decide (j ≤ i))
theorem uo_ge : OpR X (compareOp .GtE) uGe := ui0_of op_ge
def uNeg : V → Hp → VK → Prop := fun x H Q => match x with
  | .int i => Q (.int (-i)) H
  | _ => False
/-- x is None, x is not None (y is the None) -/
def uIsN : R2 := fun x y H Q => y = .non ∧ Q (.bl (decide (x = .non))) H
def uNotN : R2 := fun x y H Q => y = .non ∧ Q (.bl (!decide (x = .non))) H
theorem uo_isN : OpR X (compareOp .Is) uIsN := op_isN
/-! ### len, subscripts -/
def LenR (K : PySem.W.Frag) (H : Hp) (p : Addr) (n : Nat) : Prop := (∃ ys, (SqL K H p ys ∨ SqT K H p ys) ∧ n = ys.length) ∨ ∃ kvs, H p = some (.dK kvs) ∧ n = kvs.length
def uLen (K : PySem.W.Frag) : List V → Hp → VK → Prop := fun xs H Q => match xs with
  | [.str z] => z.length ≤ sizeLine ∧ Q (.int z.length) H
  | [.ref p] => ∃ n : Nat, LenR K H p n ∧ Q (.int n) H
  | _ => False
theorem uk_len : CallR X (.builtin "len") (uLen X.K) := by
  intro pins s σ H xs us Q I r h
  unfold uLen at h
  split at h
  · exact call_len_str pins s σ H _ us Q I r ⟨_, rfl, h.1, h.2⟩
  · obtain ⟨n, h, q⟩ := h
    rcases h with ⟨ys, h, e⟩ | ⟨kvs, h, e⟩
    · subst e
      exact call_len_seq pins s σ H _ us Q I r ⟨_, _, rfl, h, q⟩
    · subst e
      exact call_lenD pins s σ H _ us Q I r ⟨_, _, rfl, h, q⟩
  · exact h.elim
def uIx (K : PySem.W.Frag) : R2 := fun x y H Q => match x, y with
  | .ref p, .int i => ∃ xs v, (SqL K H p xs ∨ SqT K H p xs) ∧ atI xs i = some v ∧ Q v H
  | .str z, .int i => z.length ≤ sizeLine ∧ ∃ c, atI z.cps.toList i = some c ∧ Q (.str ⟨#[c]⟩) H
  | _, _ => False
theorem ux_seq : IxR X (uIx X.K) := by
  intro value slice pins s σ H x y v u Q I rx ry q hs
  unfold uIx at q
  split at q
  · obtain ⟨xs, w, hq, a, q⟩ := q
    refine ix_seq value slice pins s σ H _ _ v u Q I rx ry ?_ hs
    rcases hq with hq | hq
    · exact .inl ⟨_, xs, _, w, rfl, rfl, hq, a, q⟩
    · exact .inr (.inl ⟨_, xs, _, w, rfl, rfl, hq, a, q⟩)
  · obtain ⟨z, c, a, q⟩ := q
    exact ix_seq value slice pins s σ H _ _ v u Q I rx ry (.inr (.inr ⟨_, _, c, rfl, rfl, z, a, q⟩)) hs
  · exact q.elim
/-! ### what a for walks: a list or a tuple -/
def uSeq (K : PySem.W.Frag) (td : TE) : TI := fun σ H R => iList K td σ H R ∨ iTup K td σ H R ∨ iStr td σ H R
theorem ui_seq {tg e : Expr} {td : TE} (h : PE X e td) : PI X tg e (uSeq X.K td) := pi_or (pi_list h) (pi_or (pi_tup h) (pi_str h))
end
end Bk
set_option Elab.async false
set_option linter.all false
set_option maxRecDepth 100000
set_option maxHeartbeats 4000000
/-! Bk2: own errors over any built-in base, made by their own __init__. -/
namespace Bk
open PySem PySem.Spec PyProof.Rows L2
/-- what the written part says of an own error's class: newId, bmB of its built-in base -/
structure OexB (K : PySem.W.Frag) (C : Addr) (newId : String) (bmB : List Value) : Prop where
  cls : ∃ nm q N bs bm sn sub ab col dd k0 k1 k2 k3 k5, K.lookup C = some (excClassObj nm q C N bs bm true sn sub ab col dd k0 k1 k2 k3 k5 newId) ∧ ∀ Y : String, bm.contains (.type Y) = bmB.contains (.type Y)
  exC : PySem.W.subIn K (.ref C) (.type "BaseException") = some true
  tyC : PySem.W.typeIn K (.ref C) = some (.type "type")
  kC : PySem.W.keepIn K (.ref C) = true
section
variable {X : Cx} {pins : List (Addr × Obj)} {σ : L2.St} {H : Hp} {s : Shared} {a C : Addr} {B newId initId : String} {bmB : List Value}
/-- B.__init__(self, ..) over an error that has no dict as yet -/
theorem ginit_ok {A : Around} {E : Value → Shared → Prop} {us : List Value} {Q : Value → Shared → Prop} (F : ExcBaseFacts B newId initId bmB) (T : OexB X.K C newId bmB) (I : Inv X pins σ H s) (e : H a = some (exo a C none)) (hl : us.length ≤ sizeLine)
    (h : ∀ s', Inv X pins σ H s' → Q .none s') : wpAny (model X.prog X.w) A (call (.builtin initId) (.ref a :: us)) Q E s := by
  obtain ⟨nm, q, N, bs, bm, sn, sub, ab, col, dd, k0, k1, k2, k3, k5, hC, hT⟩ := T.cls
  obtain ⟨t1, ho⟩ := exo_at I.hok e
  obtain ⟨hp, g, d, t, os⟩ := s
  refine wpAny_call (PySem.HandSPX.init_base F hT (I.kIn _ _ hC) ho hl fun h' t2 k hx => ?_)
  have J := I.write (t' := t) (x := a) (e := a) (o := exo a C none) (by rw [e]; exact True.intro) (.inl rfl) k ⟨_, hx⟩ (exo_ok hx)
  have eu : upd H a (exo a C none) = H := funext fun b => by
    by_cases hb : b = a
    · rw [hb, upd_same, e]
    · rw [upd_ne hb]
  rw [eu] at J
  exact h _ J
/-- T.__init__(self, ..), T a built-in class of errors, or an own one that has it from there -/
def uXIk (K : PySem.W.Frag) (newId : String) (bmB : List Value) : List V → Hp → VK → Prop := fun vs H1 Q => match vs with
  | .ref a :: ws => ∃ C, ws.length ≤ 1000 ∧ OexB K C newId bmB ∧ H1 a = some (exo a C none) ∧ Q .non H1
  | _ => False
def uXI (K : PySem.W.Frag) (newId : String) (bmB : List Value) (ta : TA) : TE := fun σ H Q => ta σ H fun vs H1 => uXIk K newId bmB vs H1 Q
theorem uXI_end {F0 : ExcBaseFacts B newId initId bmB} {us : List Value} {vs : List V} {Q : VK} (I : Inv X pins σ H s) (r : Vals vs us)
    (h : uXIk X.K newId bmB vs H Q) :
    wpAny (model X.prog X.w) X.A (call (.builtin initId) us) (EP X pins σ Q) X.xe s := by
  unfold uXIk at h
  split at h
  · obtain ⟨C, hl, T, ea, q⟩ := h
    cases r with
    | @cons _ u0 _ ur ra rw' =>
      obtain rfl : u0 = Value.ref _ := ra
      have hlen : ur.length ≤ sizeLine := by
        rw [← Paired.length rw', sizeLine_eq]
        omega
      exact ginit_ok F0 T I ea hlen fun s' J => ⟨.non, H, J, rfl, q⟩
  · exact h.elim
variable {e : Expr} {es : List Expr} {ta : TA} {p1 p2 pos : Pos} {x : Str}
theorem pe_xinitB {T : String} {pl : Sem Bool} (F : ExcBaseFacts B newId initId bmB) (ty : typeOf (.type T) = pure (.type "type")) (ns : Manifest.isStub T = false) (hg : Gl X x) (hm : X.mg x = none) (hv : bootBuiltins x = some (.type T))
    (vV : PySem.W.findCls X.K (.type T) (.type "type") "__init__" = some (.val (.builtin initId))) (hh : PySem.W.handedIn (.builtin initId) = true) (ha : PA X (e :: es) ta) (hn : x ≠ "__name__" := by decide) (hd : (x == ("__debug__" : Str)) = false := by decide)
    (hc : eval (.Call (.Attribute (.Name x p1) "__init__" p2) (e :: es) [] pos) X.env = (do
      let ov ← eval (.Name x p1) X.env
      standAt p2.atName
      let (f, first) ← holding [ov] (getMethod ov "__init__" pl)
      callWith pos f first (backTo pos (starEach (e :: es) X.env)) (backToKw pos (keywordEach [] X.env))) := by rfl)
    (he : starEach (e :: es) X.env = (false, eval e X.env) :: starEach es X.env := by rfl) (hpl : (backTo pos (starEach es X.env)).any (·.1) = false := by rfl) :
    PE X (.Call (.Attribute (.Name x p1) "__init__" p2) (e :: es) [] pos) (uXI X.K newId bmB ta) := by
  refine ⟨fun pins s σ H Q I h => ?_⟩
  refine PySem.W.methodCall_KW (ld_blt I hg hm hv ?_ hn hd) hc
  obtain ⟨m, fr⟩ := I.fr
  refine PySem.W.method_type fr I.ok.mod.kin ty ns vV hh ?_
  show wpAny _ _ (callWith pos (Value.builtin initId) [] (backTo pos (starEach (e :: es) X.env)) []) _ _ _
  refine PyProof.Rows.callWith_method1 (thn (ha.run pos pins _ σ H _ (I.tok _) h) fun us s1 z => ?_) he hpl
  obtain ⟨vs, H1, I1, r1, q⟩ := z
  exact uXI_end (F0 := F) I1 r1 q
/-- how an own class hands out its base's __init__ -/
structure XiC (K : PySem.W.Frag) (D : Addr) (initId : String) : Prop where
  ga : PySem.W.specialIn K (.ref D) "__getattribute__" = some (some (.builtin "type.__getattribute__"))
  rd : PySem.W.readsIn K D (.type "type") = true
  at_ : PySem.W.findCls K (.ref D) (.type "type") "__init__" = some (.val (.builtin initId))
theorem pe_xinitO {D : Addr} {pl : Sem Bool} (F : ExcBaseFacts B newId initId bmB) (k : XiC X.K D initId) (hh : PySem.W.handedIn (.builtin initId) = true) (hg : Gl X x) (hm : X.mg x = some (.ref D)) (ha : PA X (e :: es) ta) (hd : (x == ("__debug__" : Str)) = false := by decide)
    (hc : eval (.Call (.Attribute (.Name x p1) "__init__" p2) (e :: es) [] pos) X.env = (do
      let ov ← eval (.Name x p1) X.env
      standAt p2.atName
      let (f, first) ← holding [ov] (getMethod ov "__init__" pl)
      callWith pos f first (backTo pos (starEach (e :: es) X.env)) (backToKw pos (keywordEach [] X.env))) := by rfl)
    (he : starEach (e :: es) X.env = (false, eval e X.env) :: starEach es X.env := by rfl) (hpl : (backTo pos (starEach es X.env)).any (·.1) = false := by rfl) :
    PE X (.Call (.Attribute (.Name x p1) "__init__" p2) (e :: es) [] pos) (uXI X.K newId bmB ta) := by
  refine ⟨fun pins s σ H Q I h => ?_⟩
  refine PySem.W.methodCall_KW (ld_glob I hg hm ?_ hd) hc
  refine PySem.W.method_cls I.kIn k.ga (PySem.W.cls_value I.kIn k.rd k.at_ hh ?_)
  show wpAny _ _ (callWith pos (Value.builtin initId) [] (backTo pos (starEach (e :: es) X.env)) []) _ _ _
  refine PyProof.Rows.callWith_method1 (thn (ha.run pos pins _ σ H _ (I.tok _) h) fun us s1 z => ?_) he hpl
  obtain ⟨vs, H1, I1, r1, q⟩ := z
  exact uXI_end (F0 := F) I1 r1 q
/-- the end of C(..) where no field was stored: the error is let go -/
theorem gone_end {H1 : Hp} {hp hp2 h2 : Heap} {g1 g2 : Array GenState} {d1 d2 : Drawn} {t1 t2 : Nat} {os1 os2 : OsState} {Q : XK} (T : Raises X (.ref C)) (I1 : Inv X pins σ H1 ⟨hp, g1, d1, t1, os1⟩)
    (ha : hp.objs.size ≤ a) (k : ∀ b o, hp.get? b = some o → hp2.get? b = some o) (un : Un (frs X.stack) [] (upd H1 a (exo a C none)) (upd H1 a (exo a C none)) hp2 h2) (hok : HOk X.prog X.w (upd H1 a (exo a C none)) h2) (ho : os2 = os1) (hb : AllBare g2)
    (q : Q (.ref C) none H1) : MkP X pins σ Q (.ref a) ⟨h2, g2, d2, t2, os2⟩ := by
  have ea : upd H1 a (exo a C none) a = some (exo a C none) := upd_same
  obtain ⟨t0, hoe⟩ := exo_at hok ea
  have hn : H1 a = none := I1.hok.fresh ha
  obtain ⟨G, g1', g2'⟩ := restrict h2 fun b => decide (b ≠ a)
  have gk : ∀ b, b ≠ a → G.get? b = h2.get? b := fun b hb => g1' b (decide_eq_true hb)
  have ge : G.get? a = none := g2' a (by simp)
  have nha : ∀ {b : Addr} {o : Obj}, hp.get? b = some o → b ≠ a := fun {b o} z => Nat.ne_of_lt (Nat.lt_of_lt_of_le (Heap.lt_size z) ha)
  have up : ∀ {b : Addr}, b ≠ a → H1 b = none → upd H1 a (exo a C none) b = none := fun {b} hb n => by rw [upd_ne hb]; exact n
  have U : Un (frs X.stack) [] H1 H1 hp G := {
    keep := fun b o z n hf hx => (gk b (nha z)).trans (un.keep b o (k b o z) (up (nha z) n) hf hx)
    slot := fun b o z n hf hx => by
      rw [gk b (nha z)]
      exact un.slot b o (k b o z) (up (nha z) n) hf hx
    free := fun b o z n hx => n
    there := fun b o z hx => by
      rw [gk b (nha z)]
      exact un.there b o (k b o z) hx
    tups := fun b xs z => z
    frzs := fun b o v z => z
    tbls := fun b ps z => ⟨#[], by rw [z]; simp⟩ }
  have hok3 : HOk X.prog X.w H1 G := fun b o z => by
    have hba : b ≠ a := ne_of_none z hn
    have z2 : upd H1 a (exo a C none) b = some o := by rw [upd_ne hba]; exact z
    refine (hok b o z2).stay (fun c v hc y => ?_) (fun c hc => ?_) (fun c xs hc => ?_)
    · have hca : c ≠ a := by
        rcases hc with hc | hc
        · rw [hc]; exact hba
        · exact at_ne ea hc exo_own
      rw [gk c hca]
      exact y
    · rw [upd_ne (at_ne ea hc exo_own)] at hc
      exact hc
    · rw [upd_ne (at_ne ea hc exo_tup)] at hc
      exact hc
  have J : Inv X pins σ H1 ⟨G, g2, d2, t2, os2⟩ := I1.call' (ch := []) ho U hok3 hb (fun b z => absurd z (by simp))
  refine ⟨a, _, _, ⟨G, g2, d2, t2, os2⟩, _, .ref C, none, rfl, J, fun b o z => ?_, ge, hoe, ⟨rfl, rfl⟩, rfl, rfl, hn, rfl, hb, T, q⟩
  by_cases hba : b = a
  · have z' : G.get? b = some o := z
    rw [hba, ge] at z'
    cases z'
  · exact (gk b hba).symm.trans z
/-- C(): its own __init__ keeps sp and stores nothing -/
def uMk0 (C : Addr) (sp : Sp) : L2.St → Hp → XK → Prop := fun σ H Q => ∀ a, H a = none → sp [.ref a] (upd H a (exo a C none)) (fun v H2 => v = .non ∧ H2 = upd H a (exo a C none) ∧ Q (.ref C) none H) (fun _ _ _ => False)
theorem pmk_x0 {CX : CXT} {p : Pos} {fI : Addr} {k : Nat} {fd : FuncData} {ps : List Str} {sp : Sp} (F : ExcBaseFacts B newId initId bmB) (T : OexB X.K C newId bmB) (iC : PySem.W.findIn X.K (.ref C) "__init__" = some (some (.ref fI))) (tI : PySem.W.typeIn X.K (.ref fI) = some (.type "function"))
    (F1 : FnOk X.prog X.w X.K X.mg X.base CX k fI fd ps sp) (hr : Room (k + 1) X.A) (hb : Binds X.K fd ps []) (hx : Passes CX X (fun _ _ _ => False)) (hm : X.mg x = some (.ref C)) (hg : Gl X x)
    (hdb : (x == ("__debug__" : Str)) = false := by decide) : PMk X (.Call (.Name x p) [] [] pos) (uMk0 C sp) := by
  intro pins s σ H Q I h
  obtain ⟨nm, q, N, bs, bm, sn, sub, ab, col, dd, k0, k1, k2, k3, k5, hC, hT⟩ := T.cls
  refine wpAny_Call_Name_kw (ld_glob I hg hm ?_ hdb)
  refine PySem.W.callWith_K0 I.kIn T.kC ?_
  obtain ⟨hp, g, dr, tk, os⟩ := s
  have hsz : hp.objs.size ≤ hp.objs.size + 1 := Nat.le_succ _
  have hn : H (hp.objs.size + 1) = none := I.hok.fresh hsz
  have hq := h (hp.objs.size + 1) hn
  have kk : ∀ b o, hp.get? b = some o → ((hp.push (PySem.W.kdv_tup [])).push (PySem.HandSPX.excO C hp.objs.size)).get? b = some o := fun b o e => Heap.get?_push_of_some _ (Heap.get?_push_of_some _ e)
  have hget : ((hp.push (PySem.W.kdv_tup [])).push (PySem.HandSPX.excO C hp.objs.size)).get? (hp.objs.size + 1) = some (PySem.HandSPX.excO C hp.objs.size) := by heap_get
  have I2 : Inv X pins σ (upd H (hp.objs.size + 1) (exo (hp.objs.size + 1) C none)) ⟨(hp.push (PySem.W.kdv_tup [])).push (PySem.HandSPX.excO C hp.objs.size), g, dr, tk, os⟩ :=
    I.laid (t' := tk) (a := hp.objs.size + 1) (o := exo (hp.objs.size + 1) C none) (h' := (hp.push (PySem.W.kdv_tup [])).push (PySem.HandSPX.excO C hp.objs.size)) kk hsz (exo_ok hget)
  have r2 : Vals [V.ref (hp.objs.size + 1)] [Value.ref (hp.objs.size + 1)] := .cons rfl .nil
  have hl : ([Value.ref (hp.objs.size + 1)] ++ []).length = ps.length := (F1.len _ _ _ _ hq).symm.symm
  refine wpAny_call (PySem.HandSPX.call_own F hT (I.kIn _ _ hC) (PySem.W.looks_findIn I.kIn iC) (fun self => PySem.W.bind_fn I.kIn self tI) (Nat.zero_le _)
    (codeAny_mono (F1.run _ X.stack _ _ ⟨[Value.ref (hp.objs.size + 1)], []⟩ [Value.ref (hp.objs.size + 1)] _ _ (fun _ _ _ => False) (hr.make C [] []) (I2.env0.make C [] []) (hb _ [Value.ref (hp.objs.size + 1)] I2.kIn hl) r2 hq) fun r s' hq' => ?_))
  cases r with
  | error er => exact hx pins σ _ _ er s' I2 hq'
  | ok fl =>
    cases fl with
    | ret u =>
      obtain ⟨v, H2, os2, bare2, un2, hok2, rv, ev, eH, q2⟩ := hq'
      subst ev
      subst eH
      obtain ⟨h2, g2, d2, t2, os'⟩ := s'
      exact ⟨rv, gone_end (raises_own T.exC T.tyC) I hsz kk un2 hok2 os2 bare2 q2⟩
    | next => exact False.elim hq'
    | brk => exact False.elim hq'
    | cont => exact False.elim hq'
end
end Bk
set_option Elab.async false
set_option linter.all false
set_option maxRecDepth 100000
set_option maxHeartbeats 4000000
/-! Bk3: list(zip(a, b)) of two tuples or two lists. -/
namespace Bk
open PySem PySem.Spec PyProof.Rows L2
section
variable {prog : Program} {w : World} {A : Around} {E : Value → Shared → Prop} {s : Shared}
/-- k: two tuples, else two lists: an iterator over xs at place i -/
def SIt (h : Heap) (k : Bool) (it l : Addr) (i : Nat) (xs : Array Value) : Prop := match k with
  | true => h.IsTupleIter it l i ∧ h.IsTuple l xs
  | false => h.IsListIter it l i ∧ h.IsList l xs
theorem SIt.keep {h h' : Heap} {k : Bool} {it l : Addr} {i : Nat} {xs : Array Value} (x : SIt h k it l i xs) (ki : ∀ o, h.get? it = some o → h'.get? it = some o) (kl : ∀ o, h.get? l = some o → h'.get? l = some o) : SIt h' k it l i xs := by
  cases k with
  | true =>
    obtain ⟨⟨o, e1, e2⟩, ⟨o', f1, f2⟩⟩ := x
    exact ⟨⟨o, ki o e1, e2⟩, ⟨o', kl o' f1, f2⟩⟩
  | false =>
    obtain ⟨⟨o, e1, e2⟩, ⟨o', f1, f2⟩⟩ := x
    exact ⟨⟨o, ki o e1, e2⟩, ⟨o', kl o' f1, f2⟩⟩
theorem SIt.step {h h' : Heap} {k : Bool} {it l : Addr} {i : Nat} {xs : Array Value} (x : SIt h k it l i xs) (hn : l ≠ it) (ki : match k with | true => h'.IsTupleIter it l (i + 1) | false => h'.IsListIter it l (i + 1)) (kl : Heap.SameBut it h h') : SIt h' k it l (i + 1) xs := by
  cases k with
  | true =>
    obtain ⟨_, ⟨o', f1, f2⟩⟩ := x
    exact ⟨ki, ⟨o', kl.extBut _ _ hn f1, f2⟩⟩
  | false =>
    obtain ⟨_, ⟨o', f1, f2⟩⟩ := x
    exact ⟨ki, ⟨o', kl.extBut _ _ hn f1, f2⟩⟩
theorem sit_item {k : Bool} {it l : Addr} {i : Nat} {xs : Array Value} {x : Value} {Q : Value → Shared → Prop} (hit : SIt s.heap k it l i xs) (hn : l ≠ it) (hx : xs[i]? = some x)
    (hQ : ∀ h', SIt h' k it l (i + 1) xs → Heap.SameBut it s.heap h' → Q x { s with heap := h' }) : wpAny (model prog w) A (Builtin.SmallTypes.nextOf (.ref it)) Q E s := by
  cases k with
  | true => exact RZ.nextOf_tuple_item hit.1 hit.2 hx fun h' a b => hQ h' (hit.step hn a b) b
  | false => exact wpAny_nextOf_list_item hit.1 hit.2 hx fun h' a b => hQ h' (hit.step hn a b) b
theorem sit_end {k : Bool} {it l : Addr} {i : Nat} {xs : Array Value} {Q : Value → Shared → Prop} (hh : A.handled = none) (hit : SIt s.heap k it l i xs) (hx : xs[i]? = none)
    (hE : ∀ h' e, Heap.ExtBut it s.heap h' → (∃ o, h'.get? e = some o ∧ o.cls = .type "StopIteration") → E (.ref e) { s with heap := h' }) : wpAny (model prog w) A (Builtin.SmallTypes.nextOf (.ref it)) Q E s := by
  cases k with
  | true => exact RZ.nextOf_tuple_end hh hit.1 hit.2 hx hE
  | false => exact wpAny_nextOf_list_end hh hit.1 hit.2 hx hE
/-- one turn while the tuple given out before is still there -/
theorem held_item {k : Bool} {z TI TO T i1 i2 l1 l2 : Addr} {f : Bool} {oT : Obj} {i : Nat} {xs ys : Array Value} {x y : Value} {Q : Value → Shared → Prop} (D : ZipApart z TI TO i1 i2 l1 l2)
    (hz : IsZipHeld s.heap z TI TO T f) (hT : s.heap.get? T = some oT) (hTI : IsPair s.heap TI (.ref i1) (.ref i2)) (h1 : SIt s.heap k i1 l1 i xs) (h2 : SIt s.heap k i2 l2 i ys) (hx : xs[i]? = some x) (hy : ys[i]? = some y)
    (hQ : ∀ h', IsZipHeld h' z TI TO T true → SIt h' k i1 l1 (i + 1) xs → SIt h' k i2 l2 (i + 1) ys → IsPair h' s.heap.objs.size x y → h'.objs.size = s.heap.objs.size + 1 →
      (∀ c o, c ≠ z → c ≠ i1 → c ≠ i2 → s.heap.get? c = some o → h'.get? c = some o) → Q (.ref s.heap.objs.size) { s with heap := h' }) :
    wpAny (model prog w) A (Builtin.«zip.__next__» ⟨[.ref z], []⟩) (fun fin s' => ∃ v, fin = .done (.ret v) ∧ Q v s') E s := by
  show wpAny _ _ (field (.ref z) 2 >>= _) _ _ _
  refine wpAny_bind (wpAny_field hz rfl (x := .bool false) rfl ?_)
  show wpAny _ _ (field (.ref z) 3 >>= _) _ _ _
  refine wpAny_bind (wpAny_field hz rfl (x := .ref TI) rfl ?_)
  refine wpAny_bind (wpAny_seqItems hTI rfl ?_)
  show wpAny _ _ (Builtin.SmallTypes.ownedTupleIsFree (.ref z) >>= _) _ _ _
  refine wpAny_bind (wpAny_tupleHeld_zip hz hT fun g1 z1 b1 => ?_)
  simp only [Bool.false_eq_true, if_false]
  refine wpAny_bind ?_
  rw [← Array.forIn_toList]
  simp only [List.forIn_cons, List.forIn_nil]
  refine wpAny_bind (wpAny_bind (wpAny_holding ?_))
  show wpAny _ _ (Builtin.SmallTypes.nextOf (.ref i1) >>= _) _ _ _
  have p1 : SIt g1 k i1 l1 i xs := h1.keep (fun o e => b1.extBut _ _ D.i1z e) fun o e => b1.extBut _ _ D.l1z e
  refine wpAny_bind (sit_item (s := { s with heap := g1 }) p1 D.l1i1 hx fun g2 q1 b2 => wpAny_pure ?_)
  refine wpAny_pure ?_
  refine wpAny_bind (wpAny_bind (wpAny_holding ?_))
  show wpAny _ _ (Builtin.SmallTypes.nextOf (.ref i2) >>= _) _ _ _
  have p2 : SIt g2 k i2 l2 i ys := (h2.keep (fun o e => b1.extBut _ _ D.i2z e) fun o e => b1.extBut _ _ D.l2z e).keep (fun o e => b2.extBut _ _ D.i12.symm e) fun o e => b2.extBut _ _ D.l2i1 e
  refine wpAny_bind (sit_item (s := { s with heap := g2 }) p2 D.l2i2 hy fun g3 q2 b3 => wpAny_pure ?_)
  refine wpAny_pure (wpAny_pure ?_)
  show wpAny _ _ (newTuple [x, y] >>= _) _ _ _
  refine wpAny_bind (wpAny_newTuple ?_)
  have hsz : g3.objs.size = s.heap.objs.size := by rw [b3.1, b2.1, b1.1]
  have z3 : IsZipHeld g3 z TI TO T true := b3.extBut _ _ D.i2z.symm (b2.extBut _ _ D.i1z.symm z1)
  have hk : ∀ c o, c ≠ z → c ≠ i1 → c ≠ i2 → s.heap.get? c = some o → g3.get? c = some o := fun c o c1 c2 c3 e => b3.extBut _ _ c3 (b2.extBut _ _ c2 (b1.extBut _ _ c1 e))
  have q3 : SIt g3 k i1 l1 (i + 1) xs := q1.keep (fun o e => b3.extBut _ _ D.i12 e) fun o e => b3.extBut _ _ D.l1i2 e
  refine wpAny_pure ⟨_, rfl, ?_⟩
  show Q (.ref g3.objs.size) _
  have hp : IsPair (g3.push { cls := .type "tuple", data := .seq #[x, y] }) g3.objs.size x y := Heap.get?_push_size _ rfl
  have z4 : (g3.push { cls := .type "tuple", data := .seq #[x, y] }).objs.size = g3.objs.size + 1 := Heap.size_push ..
  rw [hsz] at hp z4 ⊢
  exact hQ _ (Heap.get?_push_of_some _ z3) (q3.keep (fun o e => Heap.get?_push_of_some _ e) fun o e => Heap.get?_push_of_some _ e) (q2.keep (fun o e => Heap.get?_push_of_some _ e) fun o e => Heap.get?_push_of_some _ e) hp z4
    fun c o c1 c2 c3 e => Heap.get?_push_of_some _ (hk c o c1 c2 c3 e)
theorem held_end {k : Bool} {z TI TO T i1 i2 l1 l2 : Addr} {f : Bool} {oT : Obj} {i : Nat} {xs : Array Value} {Q : Fin → Shared → Prop} (hh : A.handled = none) (D : ZipApart z TI TO i1 i2 l1 l2)
    (hz : IsZipHeld s.heap z TI TO T f) (hT : s.heap.get? T = some oT) (hTI : IsPair s.heap TI (.ref i1) (.ref i2)) (h1 : SIt s.heap k i1 l1 i xs) (hx : xs[i]? = none)
    (hE : ∀ h' e, (∀ c o, c ≠ z → c ≠ i1 → c ≠ i2 → s.heap.get? c = some o → h'.get? c = some o) → (∃ o, h'.get? e = some o ∧ o.cls = .type "StopIteration") → E (.ref e) { s with heap := h' }) :
    wpAny (model prog w) A (Builtin.«zip.__next__» ⟨[.ref z], []⟩) Q E s := by
  show wpAny _ _ (field (.ref z) 2 >>= _) _ _ _
  refine wpAny_bind (wpAny_field hz rfl (x := .bool false) rfl ?_)
  show wpAny _ _ (field (.ref z) 3 >>= _) _ _ _
  refine wpAny_bind (wpAny_field hz rfl (x := .ref TI) rfl ?_)
  refine wpAny_bind (wpAny_seqItems hTI rfl ?_)
  show wpAny _ _ (Builtin.SmallTypes.ownedTupleIsFree (.ref z) >>= _) _ _ _
  refine wpAny_bind (wpAny_tupleHeld_zip hz hT fun g1 z1 b1 => ?_)
  simp only [Bool.false_eq_true, if_false]
  refine wpAny_bind ?_
  rw [← Array.forIn_toList]
  simp only [List.forIn_cons, List.forIn_nil]
  refine wpAny_bind (wpAny_bind (wpAny_holding ?_))
  show wpAny _ _ (Builtin.SmallTypes.nextOf (.ref i1) >>= _) _ _ _
  have p1 : SIt g1 k i1 l1 i xs := h1.keep (fun o e => b1.extBut _ _ D.i1z e) fun o e => b1.extBut _ _ D.l1z e
  refine wpAny_bind (sit_end (s := { s with heap := g1 }) hh p1 hx fun g2 e b2 he => ?_)
  exact hE g2 e (fun c o c1 c2 _ x => b2 _ _ c2 (b1.extBut _ _ c1 x)) he
theorem ne_lo {a b lo : Nat} (g : lo < a) (h : b ≤ lo) : a ≠ b := Nat.ne_of_gt (Nat.lt_of_le_of_lt h g)
/-- the zip at z over two such iterators; the tuple that is out stands above lo -/
structure ZSt (h : Heap) (k : Bool) (lo z TI TO i1 i2 l1 l2 : Addr) (i : Nat) (xs ys : Array Value) : Prop where
  zp : (IsZip h z TI TO .none ∧ IsPair h TO .none .none) ∨ ∃ (T : Addr) (f : Bool), IsZipHeld h z TI TO T f ∧ (∃ o, h.get? T = some o) ∧ lo < T
  ti : IsPair h TI (.ref i1) (.ref i2)
  s1 : SIt h k i1 l1 i xs
  s2 : SIt h k i2 l2 i ys
theorem zs_item {k : Bool} {lo z TI TO i1 i2 l1 l2 : Addr} {i : Nat} {xs ys : Array Value} {x y : Value} {Q : Option Value → Shared → Prop} (D : ZipApart z TI TO i1 i2 l1 l2) (L : z ≤ lo ∧ TO ≤ lo ∧ i1 ≤ lo ∧ i2 ≤ lo) (hlo : lo < s.heap.objs.size) (st : ZSt s.heap k lo z TI TO i1 i2 l1 l2 i xs ys) (hx : xs[i]? = some x) (hy : ys[i]? = some y)
    (hQ : ∀ h', ZSt h' k lo z TI TO i1 i2 l1 l2 (i + 1) xs ys → IsPair h' s.heap.objs.size x y → h'.objs.size = s.heap.objs.size + 1 → (∀ c o, c ≠ z → c ≠ TO → c ≠ i1 → c ≠ i2 → s.heap.get? c = some o → h'.get? c = some o) → Q (some (.ref s.heap.objs.size)) { s with heap := h' }) :
    wpAny (model prog w) A (pyNext (.ref z)) Q E s := by
  obtain ⟨zp, ti, s1, s2⟩ := st
  rcases zp with ⟨hz, hTO⟩ | ⟨T, f, hz, ⟨oT, hT⟩, nT⟩
  · have fin : ∀ h', IsZip h' z TI TO (rawInt s.heap.objs.size) → SIt h' k i1 l1 (i + 1) xs → SIt h' k i2 l2 (i + 1) ys → IsPair h' s.heap.objs.size x y → h'.objs.size = s.heap.objs.size + 1 →
        (∀ c o, c ≠ z → c ≠ TO → c ≠ i1 → c ≠ i2 → s.heap.get? c = some o → h'.get? c = some o) → Q (some (.ref s.heap.objs.size)) { s with heap := h' } := fun h' a1 a3 a4 a5 a6 a7 =>
      hQ h' ⟨.inr ⟨s.heap.objs.size, false, a1, ⟨_, a5⟩, hlo⟩, a7 _ _ D.TIz D.TITO D.TIi1 D.TIi2 ti, a3, a4⟩ a5 a6 a7
    cases k with
    | true =>
      obtain ⟨j1, r1⟩ := s1
      obtain ⟨j2, r2⟩ := s2
      refine RZ.pyNext_zipT_item D hz ti hTO j1 j2 r1 r2 hx hy fun h' a1 a2 a3 a4 a5 a6 a7 => ?_
      obtain ⟨u1, f1, f2⟩ := r1
      obtain ⟨u2, g1, g2⟩ := r2
      exact fin h' a1 ⟨a3, ⟨u1, a7 _ _ D.l1z D.l1TO D.l1i1 D.l1i2 f1, f2⟩⟩ ⟨a4, ⟨u2, a7 _ _ D.l2z D.l2TO D.l2i1 D.l2i2 g1, g2⟩⟩ a5 a6 a7
    | false =>
      obtain ⟨j1, r1⟩ := s1
      obtain ⟨j2, r2⟩ := s2
      refine wpAny_pyNext_zip_item D hz ti hTO j1 j2 r1 r2 hx hy fun h' a1 a2 a3 a4 a5 a6 a7 => ?_
      obtain ⟨u1, f1, f2⟩ := r1
      obtain ⟨u2, g1, g2⟩ := r2
      exact fin h' a1 ⟨a3, ⟨u1, a7 _ _ D.l1z D.l1TO D.l1i1 D.l1i2 f1, f2⟩⟩ ⟨a4, ⟨u2, a7 _ _ D.l2z D.l2TO D.l2i1 D.l2i2 g1, g2⟩⟩ a5 a6 a7
  · have hTy : s.TypeIs (.ref z) "zip" := ⟨_, hz, rfl⟩
    unfold pyNext
    refine wpAny_bind (wpAny_attempt (wpAny_callSpecial?_slot (name := Str.ofString "__next__") hTy F.slot_zip_next
      (wpAny_call_entry F.slot_zip_next hTy F.entry_zip_next
        (held_item D hz hT ti s1 s2 hx hy fun h' a1 a3 a4 a5 a6 a7 => wpAny_pure ?_) (F.args_zip_next_1 _))))
    exact hQ h' ⟨.inr ⟨T, true, a1, ⟨_, a7 _ _ (ne_lo nT L.1) (ne_lo nT L.2.2.1) (ne_lo nT L.2.2.2) hT⟩, nT⟩, a7 _ _ D.TIz D.TIi1 D.TIi2 ti, a3, a4⟩ a5 a6 fun c o c1 _ c3 c4 e => a7 c o c1 c3 c4 e
theorem zs_end {k : Bool} {lo z TI TO i1 i2 l1 l2 : Addr} {i : Nat} {xs ys : Array Value} {Q : Option Value → Shared → Prop} (hh : A.handled = none) (D : ZipApart z TI TO i1 i2 l1 l2) (st : ZSt s.heap k lo z TI TO i1 i2 l1 l2 i xs ys) (hx : xs[i]? = none)
    (hQ : ∀ h', (∀ c o, c ≠ z → c ≠ TO → c ≠ i1 → c ≠ i2 → s.heap.get? c = some o → h'.get? c = some o) → Q none { s with heap := h' }) : wpAny (model prog w) A (pyNext (.ref z)) Q E s := by
  obtain ⟨zp, ti, s1, s2⟩ := st
  rcases zp with ⟨hz, hTO⟩ | ⟨T, f, hz, ⟨oT, hT⟩, nT⟩
  · cases k with
    | true => exact RZ.pyNext_zipT_end hh D hz ti hTO s1.1 s2.1 s1.2 s2.2 (.inl hx) hQ
    | false => exact wpAny_pyNext_zip_end hh D hz ti hTO s1.1 s2.1 s1.2 s2.2 (.inl hx) hQ
  · have hTy : s.TypeIs (.ref z) "zip" := ⟨_, hz, rfl⟩
    unfold pyNext
    refine wpAny_bind (wpAny_attempt (wpAny_callSpecial?_slot (name := Str.ofString "__next__") hTy F.slot_zip_next
      (wpAny_call_entry F.slot_zip_next hTy F.entry_zip_next (held_end hh D hz hT ti s1 hx fun h' e hk he => ?_) (F.args_zip_next_1 _))))
    obtain ⟨o, ho, hc⟩ := he
    refine wpAny_bind (wpAny_isInstance (T := "StopIteration") (b := true) ⟨o, ho, hc⟩ isSubtype_stop ?_)
    exact wpAny_pure (hQ _ fun c o c1 _ c3 c4 e => hk c o c1 c3 c4 e)
/-- the addresses as hold the pairs of xs and ys, in order, as tuples; they lie above lo and rise -/
structure Prs (xs ys : Array Value) (lo : Addr) (h : Heap) (as : List Addr) : Prop where
  rise : as.Pairwise (· < ·)
  above : ∀ a ∈ as, lo < a
  pairs : ∀ (j : Nat) (a : Addr), as[j]? = some a → ∃ x y, xs[j]? = some x ∧ ys[j]? = some y ∧ IsPair h a x y
theorem Prs.there {xs ys : Array Value} {lo : Addr} {h : Heap} {as : List Addr} (g : Prs xs ys lo h as) {a : Addr} (ha : a ∈ as) : a < h.objs.size := by
  obtain ⟨j, hj⟩ := List.mem_iff_getElem?.mp ha
  obtain ⟨_, _, _, _, e⟩ := g.pairs j a hj
  exact Heap.lt_size e
theorem Prs.low {xs ys : Array Value} {lo lo' : Addr} {h : Heap} {as : List Addr} (g : Prs xs ys lo h as) (hl : lo' ≤ lo) : Prs xs ys lo' h as := ⟨g.rise, fun a ha => Nat.lt_of_le_of_lt hl (g.above a ha), g.pairs⟩
theorem zip_lens : typeLookup (.type "zip") "__len__" = pure none := am_miss_of_fast (by decide +kernel)
theorem zip_hints : typeLookup (.type "zip") "__length_hint__" = pure none := am_miss_of_fast (by decide +kernel)
section
variable {R : Result → Shared → Prop} {k : Bool} {xs ys : Array Value}
theorem ZSt.keep {h h' : Heap} {lo z TI TO i1 i2 l1 l2 : Addr} {i : Nat} (x : ZSt h k lo z TI TO i1 i2 l1 l2 i xs ys) (S : Addr) (hk : ∀ b o, b ≠ S → h.get? b = some o → h'.get? b = some o) (n : S ≠ z ∧ S ≠ TI ∧ S ≠ TO ∧ S ≠ i1 ∧ S ≠ i2 ∧ S ≠ l1 ∧ S ≠ l2) (hS : S ≤ lo) : ZSt h' k lo z TI TO i1 i2 l1 l2 i xs ys := by
  obtain ⟨n1, n2, n3, n4, n5, n6, n7⟩ := n
  obtain ⟨zp, ti, s1, s2⟩ := x
  refine ⟨?_, hk _ _ n2.symm ti, s1.keep (fun o e => hk _ _ n4.symm e) (fun o e => hk _ _ n6.symm e), s2.keep (fun o e => hk _ _ n5.symm e) fun o e => hk _ _ n7.symm e⟩
  rcases zp with ⟨a, b⟩ | ⟨T, f, a, ⟨o, b⟩, c⟩
  · exact .inl ⟨hk _ _ n1.symm a, hk _ _ n3.symm b⟩
  · exact .inr ⟨T, f, hk _ _ n1.symm a, ⟨o, hk _ _ (ne_lo c hS) b⟩, c⟩
theorem zl_loop {S lo z TI TO i1 i2 l1 l2 : Addr} (hh : A.handled = none) (D : ZipApart z TI TO i1 i2 l1 l2) (n : S ≠ z ∧ S ≠ TI ∧ S ≠ TO ∧ S ≠ i1 ∧ S ≠ i2 ∧ S ≠ l1 ∧ S ≠ l2) (hSl : S ≤ lo) (L : z ≤ lo ∧ TO ≤ lo ∧ i1 ≤ lo ∧ i2 ≤ lo) (hsz : ys.size = xs.size) (hn : xs.size ≤ sizeLine) (res : Value) {h1 : Heap}
    (hR : ∀ h' tk acc c as, (∀ b o, b ≠ S → b ≠ z → b ≠ TO → b ≠ i1 → b ≠ i2 → h1.get? b = some o → h'.get? b = some o) → h'.get? S = some { cls := .type "list", dict := none, data := .seq acc c, slots := #[] } → as.length = xs.size → Prs xs ys lo h' as →
      acc.toList = as.map Value.ref → R (.ok (.ret res)) { s with heap := h', toks := tk }) :
    ∀ (m i : Nat) (h : Heap) (tk c : Nat) (acc : Array Value) (as : List Addr), xs.size - i = m → i ≤ xs.size → ZSt h k lo z TI TO i1 i2 l1 l2 i xs ys → (∀ b o, b ≠ S → b ≠ z → b ≠ TO → b ≠ i1 → b ≠ i2 → h1.get? b = some o → h.get? b = some o) →
      h.get? S = some { cls := .type "list", dict := none, data := .seq acc c, slots := #[] } → acc.toList = as.map Value.ref → as.length = i → Prs xs ys lo h as → lo < h.objs.size →
      codeAny (model prog w) A (.builtin "list.extend.loop" ⟨[.ref S, .ref z, res], []⟩) R { s with heap := h, toks := tk } := by
  intro m
  induction m with
  | zero =>
    intro i h tk c acc as hm hi st hkeep hS hacc hal hG hls
    have hin : i = xs.size := by omega
    refine codeAny_builtin PySem.F.entry_extend_loop ?_
    rw [Around.under_plainId PySem.F.plain_extend_loop _]
    show wpAny _ A.in1 (pyNext (.ref z) >>= _) _ _ _
    refine wpAny_bind (zs_end (s := { s with heap := h, toks := tk }) (A := A.in1) hh D st (by rw [hin]; simp) fun h' he => ?_)
    refine wpAny_pure (hR h' tk acc c as (fun b o q1 q2 q3 q4 q5 e => he b o q2 q3 q4 q5 (hkeep b o q1 q2 q3 q4 q5 e)) (he S _ n.1 n.2.2.1 n.2.2.2.1 n.2.2.2.2.1 hS) (by omega) ⟨hG.rise, hG.above, fun j a hj => ?_⟩ hacc)
    obtain ⟨x, y, e1, e2, e3⟩ := hG.pairs j a hj
    have ga := hG.above a (List.mem_of_getElem? hj)
    exact ⟨x, y, e1, e2, he a _ (ne_lo ga L.1) (ne_lo ga L.2.1) (ne_lo ga L.2.2.1) (ne_lo ga L.2.2.2) e3⟩
  | succ m ih =>
    intro i h tk c acc as hm hi st hkeep hS hacc hal hG hls
    have hlt : i < xs.size := by omega
    have hlt2 : i < ys.size := by omega
    have hac : acc.size = i := by rw [← Array.length_toList, hacc, List.length_map, hal]
    refine codeAny_builtin PySem.F.entry_extend_loop ?_
    rw [Around.under_plainId PySem.F.plain_extend_loop _]
    show wpAny _ A.in1 (pyNext (.ref z) >>= _) _ _ _
    refine wpAny_bind (zs_item (s := { s with heap := h, toks := tk }) D L hls st (Array.getElem?_eq_getElem hlt) (Array.getElem?_eq_getElem hlt2) fun h' st' ht hz' hkp => ?_)
    dsimp only at ht hz' hkp ⊢
    have hS' := hkp S _ n.1 n.2.2.1 n.2.2.2.1 n.2.2.2.2.1 hS
    have up : ∀ b o, b ≠ S → h'.get? b = some o → (h'.update S (Obj.mapSeq (·.push (Value.ref h.objs.size)))).get? b = some o := fun b o hb e => (Heap.get?_update_other _ _ (Ne.symm hb)).trans e
    have hSlt : S < h.objs.size := Heap.lt_size hS
    show wpAny _ A.in1 (updateSeq S (·.push (Value.ref h.objs.size)) >>= _) _ _ _
    refine wpAny_bind ?_
    refine wpAny_updateSeq hS' rfl (wpAny_pure ⟨plainId_quiet PySem.F.plain_extend_loop _, ih (i + 1) _ tk _ (acc.push (Value.ref h.objs.size)) (as ++ [h.objs.size]) (by omega) hlt (st'.keep S up n hSl)
      (fun b o q1 q2 q3 q4 q5 e => up b o q1 (hkp b o q2 q3 q4 q5 (hkeep b o q1 q2 q3 q4 q5 e))) (Heap.get?_update_self _ hS' rfl) (by rw [Array.toList_push, hacc, List.map_append]; rfl) (by rw [List.length_append, hal]; rfl) ⟨?_, ?_, ?_⟩ ?_⟩) (by rw [hac]; omega) (by show (acc.push (Value.ref h.objs.size)).size ≤ sizeLine + 1; rw [Array.size_push, hac]; omega)
    · refine List.pairwise_append.mpr ⟨hG.rise, List.pairwise_singleton _ _, fun a ha b hb => ?_⟩
      rw [List.mem_singleton.mp hb]
      exact hG.there ha
    · intro a ha
      rcases List.mem_append.mp ha with ha | ha
      · exact hG.above a ha
      · rw [List.mem_singleton.mp ha]; exact hls
    · intro j b hj
      rcases Nat.lt_trichotomy j as.length with q | q | q
      · rw [List.getElem?_append_left q] at hj
        obtain ⟨x, y, e1, e2, e3⟩ := hG.pairs j b hj
        have hb := hG.above b (List.mem_of_getElem? hj)
        exact ⟨x, y, e1, e2, up b _ (ne_lo hb hSl) (hkp b _ (ne_lo hb L.1) (ne_lo hb L.2.1) (ne_lo hb L.2.2.1) (ne_lo hb L.2.2.2) e3)⟩
      · subst q
        have hb : h.objs.size = b := by simpa using hj
        subst hb
        exact ⟨_, _, by rw [hal]; exact Array.getElem?_eq_getElem hlt, by rw [hal]; exact Array.getElem?_eq_getElem hlt2, up _ _ (Nat.ne_of_gt hSlt) ht⟩
      · have hnone : (as ++ [h.objs.size])[j]? = none := List.getElem?_eq_none (by rw [List.length_append, List.length_singleton]; omega)
        rw [hnone] at hj; cases hj
    · have e : (h'.update S (Obj.mapSeq (·.push (Value.ref h.objs.size)))).get? h.objs.size = _ := up _ _ (Nat.ne_of_gt hSlt) ht
      exact Nat.lt_trans hls (Heap.lt_size e)
theorem zip_hint {z TI TO : Addr} {f0 : Value} {Q : Bool → Shared → Prop} (hz : IsZip s.heap z TI TO f0) (h : Q true s) : wpAny (model prog w) A (Builtin.List.listLengthHint (.ref z)) Q E s := by
  have hT : s.TypeIs (.ref z) "zip" := ⟨_, hz, rfl⟩
  unfold Builtin.List.listLengthHint
  refine wpAny_bind (wpAny_specialOf hT zip_lens ?_)
  show wpAny _ _ (specialOf (Value.ref z) (Str.ofString "__length_hint__") >>= _) _ _ _
  refine wpAny_bind (wpAny_specialOf hT zip_hints ?_)
  exact wpAny_pure h
theorem zl_extend {S z TI TO i1 i2 l1 l2 : Addr} {lo c0 : Nat} (hh : A.handled = none) (D : ZipApart z TI TO i1 i2 l1 l2) (n : S ≠ z ∧ S ≠ TI ∧ S ≠ TO ∧ S ≠ i1 ∧ S ≠ i2 ∧ S ≠ l1 ∧ S ≠ l2) (hSl : S ≤ lo) (L : z ≤ lo ∧ TO ≤ lo ∧ i1 ≤ lo ∧ i2 ≤ lo) (hls : lo < s.heap.objs.size) (hsz : ys.size = xs.size) (hn : xs.size ≤ sizeLine) (res : Value)
    (st : ZSt s.heap k lo z TI TO i1 i2 l1 l2 0 xs ys) (hz0 : IsZip s.heap z TI TO .none) (hS : s.heap.get? S = some { cls := .type "list", data := .seq #[] c0 })
    (hR : ∀ h' tk acc c as, (∀ b o, b ≠ S → b ≠ z → b ≠ TO → b ≠ i1 → b ≠ i2 → s.heap.get? b = some o → h'.get? b = some o) → h'.get? S = some { cls := .type "list", dict := none, data := .seq acc c, slots := #[] } → as.length = xs.size → Prs xs ys lo h' as →
      acc.toList = as.map Value.ref → R (.ok (.ret res)) { s with heap := h', toks := tk }) :
    wpAny (model prog w) A.in1 (Builtin.List.listExtendWith (.ref S) (.ref z) res)
      (fun fin s' => match fin with | .done f => R (.ok f) s' | .again c' => c'.quiet = true ∧ codeAny (model prog w) A c' R s') (fun e s' => R (.error e) s') s := by
  have hT : s.TypeIs (.ref z) "zip" := ⟨_, hz0, rfl⟩
  unfold Builtin.List.listExtendWith
  refine wpAny_bind (wpAny_typeOf (T := "zip") hT ?_)
  have e1 : Builtin.List.listSameRef (.ref S) (.ref z) = false := by simp [Builtin.List.listSameRef, n.1]
  have e2 : (Value.type "zip" == Value.type "list") = false := by decide
  have e3 : (Value.type "zip" == Value.type "tuple") = false := by decide
  simp only [e1, e2, e3, Bool.or_false, Bool.false_eq_true, if_false]
  refine wpAny_bind (wpAny_pyIter_zip hz0 ?_)
  refine wpAny_bind (wpAny_holding (zip_hint hz0 ?_))
  simp only [Bool.true_or, if_true]
  refine wpAny_bind (wpAny_rule ?_)
  refine wpAny_bind ?_
  show wpAny _ _ (updateSeq S (·.push .none) >>= fun _ => updateSeq S (·.pop)) _ _ _
  refine wpAny_bind (wpAny_updateSeq hS rfl ?_)
  have hS2 := Heap.get?_update_self (Obj.mapSeq (·.push Value.none)) hS rfl
  refine wpAny_updateSeq (hz := by seq_fits) hS2 rfl ?_
  have hS3 := Heap.get?_update_self (Obj.mapSeq (·.pop)) hS2 rfl
  have oth : ∀ b o, b ≠ S → s.heap.get? b = some o → ((s.heap.update S (Obj.mapSeq (·.push Value.none))).update S (Obj.mapSeq (·.pop))).get? b = some o :=
    fun b o hb e => (Heap.get?_update_other _ _ (Ne.symm hb)).trans ((Heap.get?_update_other _ _ (Ne.symm hb)).trans e)
  refine wpAny_pure ⟨plainId_quiet PySem.F.plain_extend_loop _, ?_⟩
  refine zl_loop (s := s) (k := k) (h1 := s.heap) hh D n hSl L hsz hn res hR xs.size 0 _ s.toks _ #[] [] (Nat.sub_zero _) (Nat.zero_le _) (st.keep S oth n hSl) (fun b o q1 _ _ _ _ e => oth b o q1 e) hS3 rfl rfl
    ⟨List.Pairwise.nil, (fun _ ha => nomatch ha), (fun j a hj => by simp at hj)⟩ ?_
  rw [Heap.size_update, Heap.size_update]
  exact hls
theorem zl_call {z TI TO i1 i2 l1 l2 : Addr} {Q : Value → Shared → Prop} (hh : A.handled = none) (D : ZipApart z TI TO i1 i2 l1 l2) (U : z < s.heap.objs.size ∧ TI < s.heap.objs.size ∧ TO < s.heap.objs.size ∧ i1 < s.heap.objs.size ∧ i2 < s.heap.objs.size ∧ l1 < s.heap.objs.size ∧ l2 < s.heap.objs.size)
    (hsz : ys.size = xs.size) (hn : xs.size ≤ sizeLine) (st : ∀ lo, ZSt s.heap k lo z TI TO i1 i2 l1 l2 0 xs ys) (hz0 : IsZip s.heap z TI TO .none)
    (hQ : ∀ h' tk acc c as, (∀ b o, b ≠ z → b ≠ TO → b ≠ i1 → b ≠ i2 → s.heap.get? b = some o → h'.get? b = some o) → h'.get? s.heap.objs.size = some { cls := .type "list", dict := none, data := .seq acc c, slots := #[] } → as.length = xs.size → Prs xs ys s.heap.objs.size h' as →
      acc.toList = as.map Value.ref → Q (.ref s.heap.objs.size) { s with heap := h', toks := tk }) :
    wpAny (model prog w) A (call (.type "list") [.ref z]) Q E s := by
  refine callType_codes (Q₁ := fun obj s₁ => obj = .ref s.heap.objs.size ∧ s₁ = { s with heap := s.heap.push { cls := .type "list", data := .seq #[] } }) PySem.F.called_list (PySem.F.typeCall_list_1 _) PySem.F.entry_list_init
    (code_list_new _ ⟨rfl, rfl⟩) fun obj s₁ h₁ => ?_
  obtain ⟨rfl, rfl⟩ := h₁
  have hS : (s.heap.push { cls := .type "list", data := .seq #[] }).get? s.heap.objs.size = some { cls := .type "list", data := .seq #[] } := Heap.get?_push_size _ rfl
  refine ⟨⟨_, hS, rfl⟩, PySem.F.args_list_init_2 _ _, ?_⟩
  obtain ⟨u1, u2, u3, u4, u5, u6, u7⟩ := U
  show wpAny _ _ (do let old ← Builtin.List.listItems (.ref s.heap.objs.size); Builtin.List.listUpdate (.ref s.heap.objs.size) (fun _ => #[]); letGo old.toList.reverse; Builtin.List.listExtendWith (.ref s.heap.objs.size) (.ref z) .none) _ _ _
  refine wpAny_bind ?_
  unfold Builtin.List.listItems
  refine wpAny_bind (wpAny_seqItems hS rfl (wpAny_pure ?_))
  show wpAny _ _ (updateSeq s.heap.objs.size (fun _ => #[]) >>= fun _ => letGo (#[] : Array Value).toList.reverse >>= fun _ => Builtin.List.listExtendWith (.ref s.heap.objs.size) (.ref z) .none) _ _ _
  refine wpAny_bind (wpAny_updateSeq hS rfl ?_)
  have hS2 := Heap.get?_update_self (Obj.mapSeq (fun _ => (#[] : Array Value))) hS rfl
  have oth : ∀ b o, b ≠ s.heap.objs.size → s.heap.get? b = some o → ((s.heap.push { cls := .type "list", data := .seq #[] }).update s.heap.objs.size (Obj.mapSeq (fun _ => (#[] : Array Value)))).get? b = some o :=
    fun b o hb e => (Heap.get?_update_other _ _ (Ne.symm hb)).trans (Heap.get?_push_of_some _ e)
  refine wpAny_bind (wpAny_letGo ?_)
  have nn : s.heap.objs.size ≠ z ∧ s.heap.objs.size ≠ TI ∧ s.heap.objs.size ≠ TO ∧ s.heap.objs.size ≠ i1 ∧ s.heap.objs.size ≠ i2 ∧ s.heap.objs.size ≠ l1 ∧ s.heap.objs.size ≠ l2 :=
    ⟨Nat.ne_of_gt u1, Nat.ne_of_gt u2, Nat.ne_of_gt u3, Nat.ne_of_gt u4, Nat.ne_of_gt u5, Nat.ne_of_gt u6, Nat.ne_of_gt u7⟩
  refine zl_extend (s := { s with heap := (s.heap.push { cls := .type "list", data := .seq #[] }).update s.heap.objs.size (Obj.mapSeq (fun _ => (#[] : Array Value))) }) (prog := prog) (w := w) (A := A.in1) (R := wants (fun r s₂ => r = Value.none ∧ Q (Value.ref s.heap.objs.size) s₂) E) (k := k) (lo := s.heap.objs.size) hh D nn (Nat.le_refl _) ⟨Nat.le_of_lt u1, Nat.le_of_lt u3, Nat.le_of_lt u4, Nat.le_of_lt u5⟩ ?_ hsz hn .none ((st _).keep s.heap.objs.size oth nn (Nat.le_refl _)) (oth _ _ nn.1.symm hz0) hS2 (fun h' tk acc c as hk hS' hl hG hacc => ?_)
  · show s.heap.objs.size < (Heap.update _ _ _).objs.size
    rw [Heap.size_update, Heap.size_push]
    exact Nat.lt_succ_self _
  · exact ⟨rfl, hQ h' tk acc c as (fun b o q2 q3 q4 q5 e => hk b o (Nat.ne_of_lt (Heap.lt_size e)) q2 q3 q4 q5 (oth b o (Nat.ne_of_lt (Heap.lt_size e)) e)) hS' hl hG hacc⟩
end
end
/-! ### over the layer -/
/-- at ts stand the pairs of xs and ys -/
def Prz (H : Hp) (ts : List Addr) (xs ys : List V) : Prop := ts.length = xs.length ∧ ∀ (j : Nat) (t : Addr), ts[j]? = some t → ∃ x y, xs[j]? = some x ∧ ys[j]? = some y ∧ H t = some (.tup [x, y])
/-- list(zip(a, b)) -/
def uLZ (K : PySem.W.Frag) (ta : TA) : TE := fun σ H Q => ta σ H fun vs H1 => ∃ a b xs ys, vs = [.ref a, .ref b] ∧ xs.length = ys.length ∧ ((SqT K H1 a xs ∧ SqT K H1 b ys) ∨ (SqL K H1 a xs ∧ SqL K H1 b ys)) ∧
  ∀ (H' : Hp) (p : Addr) (ts : List Addr), Ex H1 H' → H1 p = none → (∀ t ∈ ts, H1 t = none) → p ∉ ts → H' p = some (.lst (ts.map V.ref)) → Prz H' ts xs ys → Q (.ref p) H'
section
variable {X : Cx} {pins : List (Addr × Obj)} {σ : L2.St} {H : Hp} {s : Shared}
/-- the tuples tracked at their addresses -/
def layT : Hp → List Addr → List V → List V → Hp
  | H, a :: as, x :: xs, y :: ys => layT (upd H a (.tup [x, y])) as xs ys
  | H, _, _, _ => H
theorem layT_off {b : Addr} : ∀ (as : List Addr) (xs ys : List V) (H : Hp), b ∉ as → layT H as xs ys b = H b
  | [], _, _, _, _ => rfl
  | _ :: _, [], _, _, _ => rfl
  | _ :: _, _ :: _, [], _, _ => rfl
  | a :: as, x :: xs, y :: ys, H, h => by
    show layT (upd H a (.tup [x, y])) as xs ys b = H b
    rw [layT_off as xs ys _ (fun z => h (List.mem_cons_of_mem _ z)), upd_ne (fun z => h (by rw [z]; exact List.mem_cons_self))]
theorem layT_at : ∀ (as : List Addr) (xs ys : List V) (H : Hp), as.length = xs.length → xs.length = ys.length → as.Nodup → Prz (layT H as xs ys) as xs ys
  | [], [], _, _, _, _, _ => ⟨rfl, fun j t h => by simp at h⟩
  | [], _ :: _, _, _, h, _, _ => by cases h
  | _ :: _, [], _, _, h, _, _ => by cases h
  | _ :: _, _ :: _, [], _, _, h, _ => by cases h
  | a :: as, x :: xs, y :: ys, H, h, h2, hn => by
    obtain ⟨n1, n2⟩ := List.nodup_cons.mp hn
    obtain ⟨l, ih⟩ := layT_at as xs ys (upd H a (.tup [x, y])) (Nat.succ.inj h) (Nat.succ.inj h2) n2
    refine ⟨h, fun j t e => ?_⟩
    show ∃ u v, _ ∧ _ ∧ layT (upd H a (.tup [x, y])) as xs ys t = _
    cases j with
    | zero =>
      simp at e
      subst e
      refine ⟨x, y, rfl, rfl, ?_⟩
      rw [layT_off as xs ys _ n1, upd_same]
    | succ j =>
      obtain ⟨u, v, e1, e2, e3⟩ := ih j t (by simpa using e)
      exact ⟨u, v, by simpa using e1, by simpa using e2, e3⟩
theorem zl_laid {h' : Heap} {tk : Nat} {xs ys : List V} {us vs : List Value} {acc : Array Value} {c : Nat} {as : List Addr} {S : Addr} (I : Inv X pins σ H s) (hz : xs.length ≤ sizeLine) (lxy : xs.length = ys.length) (ru : Vals xs us) (rv : Vals ys vs) (hS0 : s.heap.objs.size ≤ S)
    (hk : ∀ b o, s.heap.get? b = some o → h'.get? b = some o) (hS : h'.get? S = some { cls := .type "list", dict := none, data := .seq acc c, slots := #[] }) (hl : as.length = xs.length) (hG : Prs us.toArray vs.toArray S h' as) (hacc : acc.toList = as.map Value.ref) :
    ∃ H' : Hp, Ex H H' ∧ H S = none ∧ (∀ t ∈ as, H t = none) ∧ S ∉ as ∧ H' S = some (.lst (as.map V.ref)) ∧ Prz H' as xs ys ∧ Inv X pins σ H' { s with heap := h', toks := tk } := by
  have hSn : S ∉ as := fun z => Nat.lt_irrefl _ (hG.above _ z)
  have nd : as.Nodup := List.Pairwise.imp (fun {a b} (h : a < b) => Nat.ne_of_lt h) hG.rise
  have new : ∀ t ∈ as, H t = none := fun t ht => I.hok.fresh (Nat.le_trans hS0 (Nat.le_of_lt (hG.above t ht)))
  have newS : H S = none := I.hok.fresh hS0
  have atP := layT_at as xs ys (upd H S (.lst (as.map V.ref))) hl lxy nd
  have off : ∀ b, b ∉ as → b ≠ S → layT (upd H S (.lst (as.map V.ref))) as xs ys b = H b := fun b h1 h2 => by rw [layT_off as xs ys _ h1, upd_ne h2]
  have low : ∀ b o, s.heap.get? b = some o → b ∉ as ∧ b ≠ S := fun b o e => ⟨fun z => absurd (Heap.lt_size e) (Nat.not_lt.mpr (Nat.le_trans hS0 (Nat.le_of_lt (hG.above b z)))), Nat.ne_of_lt (Nat.lt_of_lt_of_le (Heap.lt_size e) hS0)⟩
  have kp : Ex H (layT (upd H S (.lst (as.map V.ref))) as xs ys) := fun b u e => by
    rw [off b (fun z => by rw [new b z] at e; cases e) (fun z => by rw [z, newS] at e; cases e)]
    exact e
  have eS : layT (upd H S (.lst (as.map V.ref))) as xs ys S = some (.lst (as.map V.ref)) := by rw [layT_off as xs ys _ hSn, upd_same]
  refine ⟨layT (upd H S (.lst (as.map V.ref))) as xs ys, kp, newS, new, hSn, eS, atP, ?_⟩
  refine I.call' (ch := []) rfl ⟨fun b o q _ _ _ => hk b o q, fun b o q _ _ _ => ⟨o.slots, hk b o q⟩, fun b o q n _ => ?_, fun b o q _ => ⟨o, hk b o q⟩, fun b xs q => kp b _ q, fun b o u q => kp b _ q, fun b ps q => ⟨#[], by rw [kp b _ q]; simp⟩⟩ (fun b u q => ?_) I.bare fun b z => by simp at z
  · obtain ⟨z1, z2⟩ := low b o q
    rw [off b z1 z2]
    exact n
  · by_cases hb : b ∈ as
    · obtain ⟨j, hj⟩ := List.mem_iff_getElem?.mp hb
      obtain ⟨x, y, e1, e2, e3⟩ := atP.2 j b hj
      rw [e3] at q
      cases q
      obtain ⟨x', y', f1, f2, f3⟩ := hG.pairs j b hj
      obtain ⟨u1, g1, r1⟩ := Vals.get ru e1
      obtain ⟨u2, g2, r2⟩ := Vals.get rv e2
      have a1 : x' = u1 := by
        rw [List.getElem?_toArray, g1] at f1
        exact (Option.some.inj f1).symm
      have a2 : y' = u2 := by
        rw [List.getElem?_toArray, g2] at f2
        exact (Option.some.inj f2).symm
      subst a1 a2
      exact ⟨by show 2 ≤ sizeLine; decide, [x', y'], .cons r1 (.cons r2 .nil), ⟨_, f3, rfl, _, rfl⟩⟩
    · by_cases hb2 : b = S
      · subst hb2
        rw [eS] at q
        cases q
        refine ⟨by rw [List.length_map, hl]; exact hz, acc.toList, c, by rw [hacc]; exact LiI.vals_refs as, ?_⟩
        rw [Array.toArray_toList]
        exact hS
      · rw [off b hb hb2] at q
        exact (I.hok b u q).stay (fun d v _ y => hk d v y) (fun d y => kp d _ y) fun d xs y => kp d _ y
theorem lt_ne {b n : Nat} (h : b < n) (j : Nat) : b ≠ n + j := Nat.ne_of_lt (Nat.lt_of_lt_of_le h (Nat.le_add_right _ _))
theorem lz7 {a b n : Nat} (la : a < n) (lb : b < n) : n + 4 < n + 5 ∧ n + 2 < n + 5 ∧ n + 3 < n + 5 ∧ n < n + 5 ∧ n + 1 < n + 5 ∧ a < n + 5 ∧ b < n + 5 := by omega
theorem pe_listZip {e e2 : Expr} {ta : TA} {p p2 pos pos2 : Pos} (hc : X.calm = true) (hg : Gl X "list") (hm : X.mg "list" = none) (hg2 : Gl X "zip") (hm2 : X.mg "zip" = none) (ha : PA X [e, e2] ta)
    (hs : starEach [e, e2] X.env = (false, eval e X.env) :: starEach [e2] X.env := by rfl) (hpl : (backTo pos2 (starEach [e2] X.env)).any (·.1) = false := by rfl)
    (hs1 : starEach [.Call (.Name "zip" p2) [e, e2] [] pos2] X.env = (false, eval (.Call (.Name "zip" p2) [e, e2] [] pos2) X.env) :: starEach [] X.env := by rfl) :
    PE X (.Call (.Name "list" p) [.Call (.Name "zip" p2) [e, e2] [] pos2] [] pos) (uLZ X.K ta) := by
  refine ⟨fun pins s σ H Q I h => ?_⟩
  refine wpAny_Call_Name_kw (ld_blt (u := .type "list") I hg hm (by decide +kernel) ?_)
  refine PyProof.Rows.callWith_type1 ?_ hs1 rfl
  rw [hs1]
  refine Calls.spliced_cons ?_
  refine Call_ (ld_blt I hg2 hm2 PyProof.Rows.boot_zip (PyProof.Rows.callWith_type1 (thn (ha.run pos2 pins s σ H _ I h) fun us s1 z => ?_) hs hpl))
  obtain ⟨vs, H1, I1, r1, a, b, xs, ys, ex, lxy, hq, q⟩ := z
  subst ex
  cases r1 with
  | cons r rr =>
    cases rr with
    | cons r' rr =>
      cases rr
      cases r
      cases r'
      have fin : ∀ (k : Bool) (its its2 : List Value), Vals xs its → Vals ys its2 → xs.length ≤ sizeLine → (∀ h' : Heap, (∀ c o, s1.heap.get? c = some o → h'.get? c = some o) → match k with | true => h'.IsTuple a its.toArray ∧ h'.IsTuple b its2.toArray | false => h'.IsList a its.toArray ∧ h'.IsList b its2.toArray) → a < s1.heap.objs.size → b < s1.heap.objs.size →
          ∀ h' : Heap, IsZip h' (s1.heap.objs.size + 4) (s1.heap.objs.size + 2) (s1.heap.objs.size + 3) .none → IsPair h' (s1.heap.objs.size + 2) (.ref s1.heap.objs.size) (.ref (s1.heap.objs.size + 1)) →
            IsPair h' (s1.heap.objs.size + 3) .none .none → (match k with | true => h'.IsTupleIter s1.heap.objs.size a 0 ∧ h'.IsTupleIter (s1.heap.objs.size + 1) b 0 | false => h'.IsListIter s1.heap.objs.size a 0 ∧ h'.IsListIter (s1.heap.objs.size + 1) b 0) → h'.objs.size = s1.heap.objs.size + 5 →
            (∀ c o, s1.heap.get? c = some o → h'.get? c = some o) → wpAny (model X.prog X.w) X.A (call (.type "list") [.ref (s1.heap.objs.size + 4)]) (EP X pins σ Q) X.xe { s1 with heap := h' } := by
        intro k its its2 rv rv2 hz hkk la lb h' hz0 hTI hTO hit hsz hk
        have lu := rv.length
        have lv := rv2.length
        have st : ∀ lo, ZSt h' k lo (s1.heap.objs.size + 4) (s1.heap.objs.size + 2) (s1.heap.objs.size + 3) s1.heap.objs.size (s1.heap.objs.size + 1) a b 0 its.toArray its2.toArray := fun lo => by
          have hq2 := hkk h' hk
          cases k with
          | true => exact ⟨.inl ⟨hz0, hTO⟩, hTI, ⟨hit.1, hq2.1⟩, ⟨hit.2, hq2.2⟩⟩
          | false => exact ⟨.inl ⟨hz0, hTO⟩, hTI, ⟨hit.1, hq2.1⟩, ⟨hit.2, hq2.2⟩⟩
        refine zl_call (s := { s1 with heap := h' }) (k := k) (I1.ok.hd hc) (PySem.W.ktu_apart s1.heap.objs.size a b la lb) ?_ (by rw [List.size_toArray, List.size_toArray]; omega) (by rw [List.size_toArray]; omega) st hz0 fun h2 tk acc c as k2 hS hl hG hacc => ?_
        · show _ < h'.objs.size ∧ _ < h'.objs.size ∧ _ < h'.objs.size ∧ _ < h'.objs.size ∧ _ < h'.objs.size ∧ _ < h'.objs.size ∧ _ < h'.objs.size
          rw [hsz]
          exact lz7 la lb
        · have hl' : as.length = xs.length := by
            rw [hl, List.size_toArray]
            omega
          have hS0 : s1.heap.objs.size ≤ h'.objs.size := by
            rw [hsz]
            exact Nat.le_add_right _ _
          obtain ⟨H', x1, x2, x3, x4, x5, x6, J⟩ := zl_laid (tk := tk) I1 hz lxy rv rv2 hS0 (fun b o e => k2 b o (lt_ne (Heap.lt_size e) 4) (lt_ne (Heap.lt_size e) 3) (lt_ne (Heap.lt_size e) 0) (lt_ne (Heap.lt_size e) 1) (hk b o e)) hS hl' hG hacc
          exact ⟨.ref h'.objs.size, H', J, rfl, q H' _ as x1 x2 x3 x4 x5 x6⟩
      rcases hq with ⟨hqx, hqy⟩ | ⟨hqx, hqy⟩
      · obtain ⟨its, rv, p1, z1⟩ := I1.tuple hqx
        obtain ⟨its2, rv2, p2, _⟩ := I1.tuple hqy
        obtain ⟨o1, ho1, w1⟩ := id p1
        obtain ⟨o2, ho2, w2⟩ := id p2
        have lu := rv.length
        refine RZ.call_zipT (show s1.heap.IsTuple a its.toArray from p1) (show s1.heap.IsTuple b its2.toArray from p2) fun h' hz hTI hTO h1 h2 hsz hk => ?_
        refine Calls.spliced_nil ?_
        exact fin true its its2 rv rv2 (by omega) (fun h3 k3 => ⟨⟨o1, k3 _ _ ho1, w1⟩, ⟨o2, k3 _ _ ho2, w2⟩⟩) (Heap.lt_size ho1) (Heap.lt_size ho2) h' hz hTI hTO ⟨h1, h2⟩ hsz hk
      · obtain ⟨its, rv, p1, z1⟩ := I1.list hqx
        obtain ⟨its2, rv2, p2, _⟩ := I1.list hqy
        have lu := rv.length
        obtain ⟨o1, ho1, w1⟩ := p1.isList
        obtain ⟨o2, ho2, w2⟩ := p2.isList
        refine call_zip_2 p1.isList p2.isList fun h' hz hTI hTO h1 h2 hsz hk => ?_
        refine Calls.spliced_nil ?_
        exact fin false its its2 rv rv2 (by omega) (fun h3 k3 => ⟨⟨o1, k3 _ _ ho1, w1⟩, ⟨o2, k3 _ _ ho2, w2⟩⟩) (Heap.lt_size ho1) (Heap.lt_size ho2) h' hz hTI hTO ⟨h1, h2⟩ hsz hk
end
end Bk
set_option Elab.async false
set_option linter.all false
set_option maxRecDepth 100000
set_option maxHeartbeats 4000000
/-! Bk4: calls of defs, of built-ins by values; the turns of a reading. -/
namespace Bk
open PySem PySem.Spec PyProof.Rows L2
section
variable {X : Cx}
/-! ### calls of defs -/
def uCall (sp : Sp) (dvs : List V) (E : L2.St → XK) (t : TA) : TE := fun σ H Q => t σ H fun vs H1 => sp (vs ++ dvs) H1 Q (E σ)
theorem run_fnD {CX : CXT} {k : Nat} {f : Addr} {fd : FuncData} {ps : List Str} {sp : Sp} {ds : List Value} {dvs : List V} {E : XK} {pins : List (Addr × Obj)} {σ : L2.St} {H : Hp} {s : Shared} {Q : VK} {us : List Value} {vs : List V}
    (F : FnOk X.prog X.w X.K X.mg X.base CX k f fd ps sp) (hr : Room k X.A) (hb : Binds X.K fd ps ds) (hd : Vals dvs ds) (hx : PassesAt CX X σ E) (I : Inv X pins σ H s) (r : Vals vs us) (h : sp (vs ++ dvs) H Q E) :
    wpAny (model X.prog X.w) X.A (call (.ref f) us) (EP X pins σ Q) X.xe s := by
  have r2 : Vals (vs ++ dvs) (us ++ ds) := r.append hd
  have hl : (us ++ ds).length = ps.length := by rw [← r2.length]; exact F.len _ _ _ _ h
  refine wpAny_call (codeAny_mono (F.run X.A X.stack s H ⟨us, []⟩ (us ++ ds) (vs ++ dvs) Q E hr I.env0 (hb s us I.kIn hl) r2 h) fun r s' hq => ?_)
  cases r with
  | error e => exact hx pins H s e s' I hq
  | ok fl =>
    cases fl with
    | ret u => exact I.after hq
    | next => exact False.elim hq
    | brk => exact False.elim hq
    | cont => exact False.elim hq
variable {CX : CXT} {k : Nat} {f : Addr} {fd : FuncData} {ps : List Str} {sp : Sp} {ds : List Value} {dvs : List V} {E : L2.St → XK} {x : Str} {p pos : Pos} {e : Expr} {es : List Expr} {t : TA}
theorem pe_callD (F : FnOk X.prog X.w X.K X.mg X.base CX k f fd ps sp) (hr : Room k X.A) (hg : Gl X x) (hm : X.mg x = some (.ref f)) (hk : PySem.W.keepIn X.K (.ref f) = true) (hb : Binds X.K fd ps ds) (hd : Vals dvs ds) (hx : ∀ σ, PassesAt CX X σ (E σ))
    (ha : PA X (e :: es) t) (hdb : (x == ("__debug__" : Str)) = false := by decide) (he : starEach (e :: es) X.env = (false, eval e X.env) :: starEach es X.env := by rfl) (hpl : (backTo pos (starEach es X.env)).any (·.1) = false := by rfl) :
    PE X (.Call (.Name x p) (e :: es) [] pos) (uCall sp dvs E t) := by
  refine ⟨fun pins s σ H Q I h => ?_⟩
  refine wpAny_Call_Name_kw (ld_glob I hg hm ?_ hdb)
  refine PySem.W.callWith_K (h₀ := X.base) I.ok.mod.kin hk (thn (ha.run pos pins s σ H _ I h) fun us s1 z => ?_) he hpl
  obtain ⟨vs, H1, I1, r, q⟩ := z
  exact ⟨I1.kIn, run_fnD F hr hb hd (hx σ) I1 r q⟩
theorem pe_callD0 (F : FnOk X.prog X.w X.K X.mg X.base CX k f fd ps sp) (hr : Room k X.A) (hg : Gl X x) (hm : X.mg x = some (.ref f)) (hk : PySem.W.keepIn X.K (.ref f) = true) (hb : Binds X.K fd ps ds) (hd : Vals dvs ds) (hx : ∀ σ, PassesAt CX X σ (E σ))
    (hdb : (x == ("__debug__" : Str)) = false := by decide) : PE X (.Call (.Name x p) [] [] pos) (uCall sp dvs E tNil) := by
  refine ⟨fun pins s σ H Q I h => ?_⟩
  refine wpAny_Call_Name_kw (ld_glob I hg hm ?_ hdb)
  exact PySem.W.callWith_K0 I.kIn hk (run_fnD (us := []) F hr hb hd (hx σ) I .nil h)
/-! ### calls of built-ins by values -/
def uAbs : List V → Hp → VK → Prop := fun xs H Q => match xs with
  | [.int i] => Q (.int (i.natAbs : Nat)) H
  | _ => False
theorem uk_abs : CallR X (.builtin "abs") uAbs := by
  intro pins s σ H xs us Q I r h
  unfold uAbs at h
  split at h
  · rename_i i
    refine call_abs pins s σ H _ us Q I r ⟨_, rfl, ?_⟩
    have z : (if i < 0 then -i else i) = (i.natAbs : Nat) := by split <;> omega
    rw [z]
    exact h
  · exact h.elim
def uMax2 : List V → Hp → VK → Prop := fun xs H Q => match xs with
  | [.int i, .int j] => Q (.int (max i j)) H
  | _ => False
theorem uk_max2 (hc : X.calm = true) : CallR X (.builtin "max") uMax2 := by
  intro pins s σ H xs us Q I r h
  unfold uMax2 at h
  split at h
  · rename_i i j
    refine call_max2 hc pins s σ H _ us Q I r ⟨_, _, rfl, ?_⟩
    have z : (if j > i then j else i) = max i j := by split <;> omega
    rw [z]
    exact h
  · exact h.elim
def uMin2 : List V → Hp → VK → Prop := fun xs H Q => match xs with
  | [.int i, .int j] => Q (.int (min i j)) H
  | _ => False
theorem uk_min2 (hc : X.calm = true) : CallR X (.builtin "min") uMin2 := by
  intro pins s σ H xs us Q I r h
  unfold uMin2 at h
  split at h
  · rename_i i j
    refine call_min2 hc pins s σ H _ us Q I r ⟨_, _, rfl, ?_⟩
    have z : (if j < i then j else i) = min i j := by split <;> omega
    rw [z]
    exact h
  · exact h.elim
def b2z (b : Bool) : Int := if b then 1 else 0
def uInt : List V → Hp → VK → Prop := fun xs H Q => match xs with
  | [.int i] => Q (.int i) H
  | [.bl k] => Q (.int (b2z k)) H
  | _ => False
theorem uk_int : CallR X (.type "int") uInt := by
  intro pins s σ H xs us Q I r h
  unfold uInt at h
  split at h
  · exact call_int1 pins s σ H _ us Q I r (.inl ⟨_, rfl, h⟩)
  · exact call_int1 pins s σ H _ us Q I r (.inr ⟨_, rfl, h⟩)
  · exact h.elim
/-- a constant of the module's top -/
theorem pe_con {x : Str} {v : V} {pos : Pos} (hg : Gl X x) (h : ∃ u, X.mg x = some u ∧ RelV v u) (hd : (x == ("__debug__" : Str)) = false := by decide) : PE X (.Name x pos) (tC v) := by
  obtain ⟨u, hm, r⟩ := h
  exact pe_glob hg hm r hd
/-! ### isinstance by what the value is -/
/-- the kinds of values that we meet, as built-in types -/
inductive Ty : PySem.W.Frag → Hp → V → String → Prop where
  | non {K : PySem.W.Frag} {H : Hp} : Ty K H .non "NoneType"
  | bl {K : PySem.W.Frag} {H : Hp} (b : Bool) : Ty K H (.bl b) "bool"
  | int {K : PySem.W.Frag} {H : Hp} (i : Int) : Ty K H (.int i) "int"
  | str {K : PySem.W.Frag} {H : Hp} (z : Str) : Ty K H (.str z) "str"
  | lst {K : PySem.W.Frag} {H : Hp} {a : Addr} {xs : List V} (e : H a = some (.lst xs)) : Ty K H (.ref a) "list"
  | tup {K : PySem.W.Frag} {H : Hp} {a : Addr} {xs : List V} (e : H a = some (.tup xs)) : Ty K H (.ref a) "tuple"
theorem Ty.wide {K : PySem.W.Frag} {H : Hp} {v : V} {t : String} (h : Ty K H v t) : TyX K H v (.type t) := by
  cases h with
  | non => exact .base .non
  | bl b => exact .base (.bl b)
  | int i => exact .base (.int i)
  | str z => exact .base (.str z)
  | lst e => exact .base (.lst e)
  | tup e => exact .base (.tup e)
/-- isinstance(x, T), T a built-in type; x any value of ours -/
def uIs (K : PySem.W.Frag) : List V → Hp → VK → Prop := fun xs H Q => match xs with
  | [x, .ty T] => ∃ (t : String) (b : Bool), Ty K H x t ∧ kitB t T = some b ∧ Q (.bl b) H
  | _ => False
theorem uk_is : CallR X (.builtin "isinstance") (uIs X.K) := by
  intro pins s σ H xs us Q I r h
  unfold uIs at h
  split at h
  · obtain ⟨t, b, ty, e, q⟩ := h
    exact call_isi pins s σ H _ us Q I r ⟨_, _, _, _, b, rfl, .ty _, ty.wide, kit_ty e, q⟩
  · exact h.elim
/-- isinstance(x, (T, U)) -/
def uIsT (K : PySem.W.Frag) : List V → Hp → VK → Prop := fun xs H Q => match xs with
  | [x, .ref p] => ∃ (t T U : String) (b c : Bool), H p = some (.tup [.ty T, .ty U]) ∧ Ty K H x t ∧ kitB t T = some b ∧ kitB t U = some c ∧ Q (.bl (b || c)) H
  | _ => False
theorem uk_isT : CallR X (.builtin "isinstance") (uIsT X.K) := by
  intro pins s σ H xs us Q I r h
  unfold uIsT at h
  split at h
  · obtain ⟨t, T, U, b, c, ep, ty, e1, e2, q⟩ := h
    refine call_isiT pins s σ H _ us Q I r ⟨_, _, _, _, [.type T, .type U], b || c, rfl, ep, .cons (.ty T) (.cons (.ty U) .nil), ty.wide, ?_, q⟩
    refine kitAny_cons (kit_ty e1) (fun hb => ?_) fun hb => by rw [hb]; rfl
    rw [hb]
    exact kitAny_cons (kit_ty e2) (fun hc => by rw [hc]; rfl) fun hc => by rw [hc]; rfl
  · exact h.elim
end
end Bk
set_option Elab.async false
set_option linter.all false
set_option maxRecDepth 100000
set_option maxHeartbeats 4000000
/-! Bk5: the turns of a reading, one lemma a word. -/
namespace Bk
open PySem PySem.Spec PyProof.Rows L2
section
variable {D : Ends} {σ : L2.St} {H : Hp} {Q : VK} {K : PySem.W.Frag} {te ta tb tx : TE} {t u : TS} {c d : TT} {g : TG} {tr : TA} {v : V} {i j : Int} {n m : Nat} {r : R2} {gg : Int → Int → V} {C : Int → Int → Prop} {q : Bool → Hp → Prop} {b : Bool}
/-! statements -/
theorem g_seq (h : t { D with nx := u D } σ H) : tSeq t u D σ H := h
theorem g_asg (h : te σ H fun x H1 => g x σ H1 D.nx) : tAsg te g D σ H := h
theorem g_ret (h : te σ H D.rt) : tRet te D σ H := h
theorem g_retN (h : D.rt .non H) : tRetN D σ H := h
theorem g_drop (h : te σ H fun _ H1 => D.nx σ H1) : tDrop te D σ H := h
theorem g_ifs (h : c σ H fun b H1 => if b = true then t D σ H1 else u D σ H1) : tIfS c t u D σ H := h
theorem g_next (h : D.nx σ H) : tNext D σ H := h
theorem g_par {tA : TA} (h : tA σ H fun vs H1 => ∃ v w, vs = [v, w] ∧ D.nx ((σ.set n (some v)).set m (some w)) H1) : tPar n m tA D σ H := h
theorem g_pair {x y : V} {P : V → V → Prop} (h : P x y) : ∃ v w, [x, y] = [v, w] ∧ P v w := ⟨x, y, rfl, h⟩
theorem g_name {P : L2.St → Hp → Prop} (h : P (σ.set n (some v)) H) : gName n v σ H P := h
theorem g_sub {to ti : TE} {ts : TSet} {P : L2.St → Hp → Prop} (h : to σ H fun o H1 => ti σ H1 fun i H2 => ts o i v H2 fun H3 => P σ H3) : gSub to ti ts v σ H P := h
theorem g_setL {p : Addr} {xs : List V} {P : Hp → Prop} {k : Nat} (hp : H p = some (.lst xs)) (hk : ixN xs.length i = some k) (h : P (upd H p (.lst (xs.set k v)))) : rSetL (.ref p) (.int i) v H P := ⟨p, xs, i, k, rfl, rfl, hp, hk, h⟩
theorem g_tup2 {p : Addr} {x y : V} {t1 t2 : TG} {P : L2.St → Hp → Prop} (hp : H p = some (.tup [x, y])) (h : t1 x σ H fun σ1 H1 => t2 y σ1 H1 P) : gTup K 2 (gCons t1 (gCons t2 gNil)) (.ref p) σ H P := by
  refine ⟨p, [x, y], rfl, sqT hp, rfl, x, [y], rfl, ?_⟩
  have e : (fun σ' H' => gCons t2 gNil [y] σ' H' P) = fun σ1 H1 => t2 y σ1 H1 P := by
    funext σ1 H1
    apply propext
    constructor
    · rintro ⟨_, _, q, h⟩
      cases q
      have e2 : (fun σ' H' => gNil [] σ' H' P) = P := by
        funext σ2 H2
        exact propext ⟨fun z => z.2, fun z => ⟨rfl, z⟩⟩
      rw [e2] at h
      exact h
    · intro h
      refine ⟨y, [], rfl, ?_⟩
      have e2 : (fun σ' H' => gNil [] σ' H' P) = P := by
        funext σ2 H2
        exact propext ⟨fun z => z.2, fun z => ⟨rfl, z⟩⟩
      rw [e2]
      exact h
  rw [e]
  exact h
/-! expressions -/
theorem g_c (h : Q v H) : tC v σ H Q := h
theorem g_op (h : ta σ H fun x H1 => tb σ H1 fun y H2 => r x y H2 Q) : tOp r ta tb σ H Q := h
theorem g_un {f : V → Hp → VK → Prop} (h : ta σ H fun x H1 => f x H1 Q) : tUn f ta σ H Q := h
theorem g_cons {P : List V → Hp → Prop} (h : ta σ H fun x H1 => tr σ H1 fun xs H2 => P (x :: xs) H2) : tCons ta tr σ H P := h
theorem g_nil {P : List V → Hp → Prop} (h : P [] H) : tNil σ H P := h
theorem g_cb {f : List V → Hp → VK → Prop} (h : tr σ H fun vs H1 => f vs H1 Q) : tCB f tr σ H Q := h
theorem g_call {sp : Sp} {dvs : List V} {E : L2.St → XK} (h : tr σ H fun vs H1 => sp (vs ++ dvs) H1 Q (E σ)) : uCall sp dvs E tr σ H Q := h
theorem g_if (h : c σ H fun b H1 => if b = true then ta σ H1 Q else tb σ H1 Q) : tIf c ta tb σ H Q := h
theorem g_iT {A B : Prop} (h : A) : if true = true then A else B := by rw [if_pos rfl]; exact h
theorem g_iF {A B : Prop} (h : B) : if false = true then A else B := by rw [if_neg Bool.false_ne_true]; exact h
theorem g_iNT {A B : Prop} (h : B) : if (!true) = true then A else B := by rw [if_neg (by decide)]; exact h
theorem g_iNF {A B : Prop} (h : A) : if (!false) = true then A else B := by rw [if_pos (by decide)]; exact h
theorem g_isNn (h : Q (.bl true) H) : uIsN .non .non H Q := ⟨rfl, by rw [decide_eq_true rfl]; exact h⟩
theorem g_isNr {a : Addr} (h : Q (.bl false) H) : uIsN (.ref a) .non H Q := ⟨rfl, by rw [decide_eq_false (fun z => nomatch z)]; exact h⟩
theorem g_isNi (h : Q (.bl false) H) : uIsN (.int i) .non H Q := ⟨rfl, by rw [decide_eq_false (fun z => nomatch z)]; exact h⟩
theorem g_notNn (h : Q (.bl false) H) : uNotN .non .non H Q := ⟨rfl, by rw [decide_eq_true rfl]; exact h⟩
theorem g_notNr {a : Addr} (h : Q (.bl true) H) : uNotN (.ref a) .non H Q := ⟨rfl, by rw [decide_eq_false (fun z => nomatch z)]; exact h⟩
theorem g_notNi (h : Q (.bl true) H) : uNotN (.int i) .non H Q := ⟨rfl, by rw [decide_eq_false (fun z => nomatch z)]; exact h⟩
theorem g_notV (h : ta σ H fun x H1 => ∃ c, x = .bl c ∧ Q (.bl (!c)) H1) : tNotV ta σ H Q := h
theorem g_not (h : c σ H fun b H1 => q (!b) H1) : tNot c σ H q := h
theorem g_and (h : c σ H fun b H1 => if b = true then d σ H1 q else q false H1) : tAnd c d σ H q := h
theorem g_or (h : c σ H fun b H1 => if b = true then q true H1 else d σ H1 q) : tOr c d σ H q := h
theorem g_uT (h : te σ H fun x H1 => uTru K x H1 q) : uT K te σ H q := h
theorem g_test (h : te σ H fun x H1 => ∃ k, x = .bl k ∧ q k H1) : tTest te σ H q := h
theorem g_tB (h : te σ H fun x H1 => ∃ c, x = .bl c ∧ q c H1) : tB te σ H q := h
theorem g_bl {P : Bool → Prop} (h : P b) : ∃ k, V.bl b = .bl k ∧ P k := ⟨b, rfl, h⟩
theorem g_chain {r' : R2} (h : ta σ H fun x H1 => tb σ H1 fun y H2 => r x y H2 fun z H3 => ∃ k, z = .bl k ∧ (if k = true then tx σ H3 fun w' H4 => r' y w' H4 Q else Q (.bl false) H3)) : tChain r r' ta tb tx σ H Q := h
theorem g_andV (h : ta σ H fun x H1 => ∃ c, x = .bl c ∧ if c = true then tb σ H1 Q else Q (.bl false) H1) : tAndV ta tb σ H Q := h
theorem g_orV (h : ta σ H fun x H1 => ∃ c, x = .bl c ∧ if c = true then Q (.bl true) H1 else tb σ H1 Q) : tOrV ta tb σ H Q := h
theorem g_tbl (h : q b H) : uTru K (.bl b) H q := h
theorem g_tin (h : q (i != 0) H) : uTru K (.int i) H q := h
theorem g_addI (h : Q (.int (i + j)) H) : uAdd K (.int i) (.int j) H Q := h
theorem g_i0 (h : Q (gg i j) H) : uI0 gg (.int i) (.int j) H Q := h
theorem g_i (h : Q (gg i j) H) (hc : C i j) : uI C gg (.int i) (.int j) H Q := ⟨hc, h⟩
theorem g_neg (h : Q (.int (-i)) H) : uNeg (.int i) H Q := h
theorem g_eqI (h : Q (.bl (decide (V.int i = V.int j))) H) : rEq (.int i) (.int j) H Q := ⟨rfl, h⟩
theorem g_neI (h : Q (.bl (!decide (V.int i = V.int j))) H) : rNe (.int i) (.int j) H Q := ⟨rfl, h⟩
theorem g_eqS {x y : Str} (h : Q (.bl (decide (V.str x = V.str y))) H) : rEq (.str x) (.str y) H Q := ⟨rfl, h⟩
theorem g_neS {x y : Str} (h : Q (.bl (!decide (V.str x = V.str y))) H) : rNe (.str x) (.str y) H Q := ⟨rfl, h⟩
theorem g_neB {x y : Bool} (h : Q (.bl (!decide (V.bl x = V.bl y))) H) : rNe (.bl x) (.bl y) H Q := ⟨rfl, h⟩
theorem g_abs (h : Q (.int (i.natAbs : Nat)) H) : uAbs [.int i] H Q := h
theorem g_max (h : Q (.int (max i j)) H) : uMax2 [.int i, .int j] H Q := h
theorem g_min (h : Q (.int (min i j)) H) : uMin2 [.int i, .int j] H Q := h
theorem g_intI (h : Q (.int i) H) : uInt [.int i] H Q := h
theorem g_intB (h : Q (.int (b2z b)) H) : uInt [.bl b] H Q := h
theorem g_lenL {p : Addr} {xs : List V} (hp : H p = some (.lst xs)) (h : Q (.int (xs.length : Nat)) H) : uLen K [.ref p] H Q := ⟨xs.length, .inl ⟨xs, .inl (sqL hp), rfl⟩, h⟩
theorem g_lenT {p : Addr} {xs : List V} (hp : H p = some (.tup xs)) (h : Q (.int (xs.length : Nat)) H) : uLen K [.ref p] H Q := ⟨xs.length, .inl ⟨xs, .inr (sqT hp), rfl⟩, h⟩
theorem g_lenSq {p : Addr} {xs : List V} (hp : SqL K H p xs) (h : Q (.int (xs.length : Nat)) H) : uLen K [.ref p] H Q := ⟨xs.length, .inl ⟨xs, .inl hp, rfl⟩, h⟩
theorem g_ixL {p : Addr} {xs : List V} (hp : H p = some (.lst xs)) (e : atI xs i = some v) (h : Q v H) : uIx K (.ref p) (.int i) H Q := ⟨xs, v, .inl (sqL hp), e, h⟩
theorem g_ixT {p : Addr} {xs : List V} (hp : H p = some (.tup xs)) (e : atI xs i = some v) (h : Q v H) : uIx K (.ref p) (.int i) H Q := ⟨xs, v, .inr (sqT hp), e, h⟩
theorem g_ixSq {p : Addr} {xs : List V} (hp : SqL K H p xs) (e : atI xs i = some v) (h : Q v H) : uIx K (.ref p) (.int i) H Q := ⟨xs, v, .inl hp, e, h⟩
theorem g_tup (h : tr σ H fun xs H1 => xs.length ≤ sizeLine ∧ ∀ p, H1 p = none → Q (.ref p) (upd H1 p (.tup xs))) : tTup tr σ H Q := h
theorem g_lst (h : tr σ H fun xs H1 => xs.length ≤ sizeLine ∧ ∀ p, H1 p = none → Q (.ref p) (upd H1 p (.lst xs))) : tLst tr σ H Q := h
theorem g_new {xs : List V} {P : Prop} (h : P) (hl : Nat.ble xs.length 1000 = true := by rfl) : xs.length ≤ sizeLine ∧ P := ⟨Nat.le_of_lt (small1000 (Nat.le_of_ble_eq_true hl)), h⟩
theorem g_for {wi : TI} {tb : TS} {D : Ends} {σ : L2.St} {H : Hp} (h : wi σ H fun J H1 => ∃ W : Nat → Nat → L2.St → Hp → Prop, (∃ m, W 0 m σ H1) ∧ ∀ i m σ H, W i m σ H →
  (J.stop i H ∧ D.nx σ H) ∨ (J.go i H ∧ ∃ N : L2.St → Hp → Prop, (∀ σ' H', N σ' H' → ∃ m', m' < m ∧ W (i + 1) m' σ' H') ∧ ∀ x H', J.yld i H x H' → g x σ H' fun σ2 H2 => tb { D with nx := N, ct := N, bk := D.nx } σ2 H2)) : tFor wi g tb D σ H := h
theorem g_rng1 {R : It → Hp → Prop} (h : tr σ H fun vs H1 => ∃ j : Int, vs = [.int j] ∧ -(2 ^ 62) ≤ j ∧ j < 2 ^ 62 ∧ R (Itr 0 j.toNat) H1) : iRng1 tr σ H R := h
theorem g_rng2 {R : It → Hp → Prop} (h : tr σ H fun vs H1 => ∃ i j : Int, vs = [.int i, .int j] ∧ (-(2 ^ 62) ≤ i ∧ i < 2 ^ 62 ∧ -(2 ^ 62) ≤ j ∧ j < 2 ^ 62) ∧ R (Itr i (j - i).toNat) H1) : iRng2 tr σ H R := h
theorem g_bm0 {T : String} {f : V → List V → Hp → VK → Prop} (h : ta σ H fun x H1 => tyV K T x H1 ∧ f x [] H1 Q) : tBM0 K T f ta σ H Q := h
theorem g_bm {T : String} {f : V → List V → Hp → VK → Prop} (h : ta σ H fun x H1 => tyV K T x H1 ∧ tr σ H1 fun xs H2 => f x xs H2 Q) : tBM K T f ta tr σ H Q := h
theorem g_tyL {p : Addr} {xs : List V} {P : Prop} (hp : H p = some (.lst xs)) (h : P) : tyV K "list" (.ref p) H ∧ P := ⟨.inl ⟨rfl, xs, sqL hp⟩, h⟩
end
/-- the rest of a while's turn: it ends where W stands with less -/
def WN (W : Nat → L2.St → Hp → Prop) (m : Nat) (tb : TS) (D : Ends) (σ : L2.St) (H : Hp) : Prop := ∃ N : L2.St → Hp → Prop, (∀ σ' H', N σ' H' → ∃ m', m' < m ∧ W m' σ' H') ∧ tb { D with nx := N, ct := N, bk := D.nx } σ H
theorem g_wn {W : Nat → L2.St → Hp → Prop} {m : Nat} {tb : TS} {D : Ends} {σ : L2.St} {H : Hp} (h : tb { D with nx := fun σ' H' => ∃ m', m' < m ∧ W m' σ' H', ct := fun σ' H' => ∃ m', m' < m ∧ W m' σ' H', bk := D.nx } σ H) : WN W m tb D σ H := ⟨_, fun _ _ z => z, h⟩
/-- while, by a word that bears its measure -/
theorem g_while {c : TT} {tb : TS} {D : Ends} {σ : L2.St} {H : Hp} (W : Nat → L2.St → Hp → Prop) (m0 : Nat) (h0 : W m0 σ H) (hs : ∀ m σ H, W m σ H → c σ H fun b H1 => if b = true then WN W m tb D σ H1 else D.nx σ H1) : tWhile c tb D σ H :=
  ⟨W, ⟨m0, h0⟩, hs⟩
end Bk
set_option Elab.async false
set_option linter.all false
set_option maxRecDepth 100000
set_option maxHeartbeats 4000000
/-! Bk6: what all laws share: tests, boxes of draws, the law's own end. -/
namespace Bk
open PySem PySem.Spec PyProof.Rows L2
/-! ### tests -/
section
variable {A B : Prop} {i j : Int}
theorem i_d {p : Prop} [Decidable p] (h1 : p → A) (h2 : ¬ p → B) : if decide p = true then A else B := by
  by_cases h : p
  · rw [if_pos (decide_eq_true h)]; exact h1 h
  · rw [if_neg (by simp [h])]; exact h2 h
theorem i_n {p : Prop} [Decidable p] (h1 : ¬ p → A) (h2 : p → B) : if (!decide p) = true then A else B := by
  by_cases h : p
  · rw [if_neg (by simp [h])]; exact h2 h
  · rw [if_pos (by simp [h])]; exact h1 h
theorem i_b {b : Bool} (h1 : b = true → A) (h2 : b = false → B) : if b = true then A else B := by
  cases b with
  | true => rw [if_pos rfl]; exact h1 rfl
  | false => rw [if_neg Bool.false_ne_true]; exact h2 rfl
theorem i_eqI (h1 : i = j → A) (h2 : i ≠ j → B) : if decide (V.int i = V.int j) = true then A else B := i_d (fun h => h1 (V.int.inj h)) fun h => h2 fun e => h (congrArg V.int e)
theorem i_neI (h1 : i ≠ j → A) (h2 : i = j → B) : if (!decide (V.int i = V.int j)) = true then A else B := i_n (fun h => h1 fun e => h (congrArg V.int e)) fun h => h2 (V.int.inj h)
theorem i_eqS {x y : Str} (h1 : x = y → A) (h2 : x ≠ y → B) : if decide (V.str x = V.str y) = true then A else B := i_d (fun h => h1 (V.str.inj h)) fun h => h2 fun e => h (congrArg V.str e)
theorem i_neS {x y : Str} (h1 : x ≠ y → A) (h2 : x = y → B) : if (!decide (V.str x = V.str y)) = true then A else B := i_n (fun h => h1 fun e => h (congrArg V.str e)) fun h => h2 (V.str.inj h)
theorem i_F {b : Bool} (h : b = false) (a : B) : if b = true then A else B := by rw [h, if_neg Bool.false_ne_true]; exact a
end
/-! ### the structure's small parts -/
theorem exm_self {K : PySem.W.Frag} {S : Addr} (h1 : PySem.W.subIn K (.ref S) (.type "BaseException") = some true) (h2 : PySem.W.isClsIn K S = true) (h3 : PySem.W.typeIn K (.ref S) = some (.type "type")) (h4 : PySem.W.subIn K (.ref S) (.ref S) = some true) :
    PySem.W.exmOne K (.ref S) (.ref S) = some true := by
  have a : (PySem.W.subIn K (.ref S) (.type "BaseException") == some true) = true := by rw [h1] <;> rfl
  have b : ((PySem.W.clsIn K S).isSome && PySem.W.typeIn K (.ref S) == some (.type "type")) = true := by
    have z : (PySem.W.clsIn K S).isSome = true := h2
    rw [z, h3] <;> rfl
  show (if (PySem.W.subIn K (.ref S) (.type "BaseException") == some true) = true then (if ((PySem.W.clsIn K S).isSome && PySem.W.typeIn K (.ref S) == some (.type "type")) = true then PySem.W.subIn K (.ref S) (.ref S) else none) else none) = some true
  rw [if_pos a, if_pos b]
  exact h4
theorem binds_all {K : PySem.W.Frag} {fd : FuncData} {ps : List Str} (h : ∃ ds, Vals [] ds ∧ Binds K fd ps ds) : Binds K fd ps [] := by
  obtain ⟨ds, r, b⟩ := h
  cases r
  exact b
/-- what a law promises -/
def spLaw (K : PySem.W.Frag) : Sp := fun vs H Q _ => ∃ (a : Addr) (ns : List Int), vs = [.ref a] ∧ SqL K H a (ns.map V.int) ∧ ns.length ≤ 63 ∧ ∀ H', Q (.bl true) H'
theorem spLaw_of {K : PySem.W.Frag} {H : Hp} {a : Addr} {ns : List Int} (_ : Only H) (hS : SqL K H a (ns.map V.int)) (hl : ns.length ≤ 63) : spLaw K [.ref a] H (fun v _ => v = .bl true) fun _ _ _ => False := ⟨a, ns, rfl, hS, hl, fun _ => rfl⟩
theorem cx_false {P : Program} {w : World} {H : Hp} {s s' : Shared} {e : Value} (h : L2.CX P w [] H s (fun _ _ _ => False) e s') : False := by
  obtain ⟨_, _, _, _, _, _, _, _, _, _, _, _, z⟩ := h
  exact z
/-! ### a box of draws -/
def Box (H : Hp) (p : Addr) : Prop := ∃ a b c : Int, H p = some (.lst [.int a, .int b, .int c])
theorem Box.ex {H H' : Hp} {p : Addr} (b : Box H p) (e : Ex H H') : Box H' p := by
  obtain ⟨x, y, z, h⟩ := b
  exact ⟨x, y, z, e _ _ h⟩
theorem Box.but {H H' : Hp} {p l : Addr} (b : Box H p) (e : But l H H') (n : p ≠ l) : Box H' p := by
  obtain ⟨x, y, z, h⟩ := b
  exact ⟨x, y, z, e _ _ n h⟩
/-- take(box, m): a number from 0 to m - 1 -/
def spTake : Sp := fun vs H Q _ => ∃ (p : Addr) (m : Int), vs = [.ref p, .int m] ∧ Box H p ∧ 0 < m ∧ m.natAbs.log2 < 9000 ∧ ∀ (d : Int) (H' : Hp), 0 ≤ d → d < m → But p H H' → Box H' p → Q (.int d) H'
/-- box(script, k): a new box -/
def spBox (K : PySem.W.Frag) : Sp := fun vs H Q _ => ∃ (s : Addr) (ns : List Int) (k : Nat), vs = [.ref s, .int (k : Int)] ∧ SqL K H s (ns.map V.int) ∧ ns.length ≤ 63 ∧ ∀ (p : Addr) (H' : Hp), H p = none → Ex H H' → Box H' p → Q (.ref p) H'
theorem fmod_pos {a m : Int} (h : 0 < m) : 0 ≤ a.fmod m ∧ a.fmod m < m := by
  rw [Int.fmod_eq_emod_of_nonneg a (Int.le_of_lt h)]
  exact ⟨Int.emod_nonneg _ (Int.ne_of_gt h), Int.emod_lt_of_pos _ h⟩
theorem at_ints {ns : List Int} {i : Nat} (h : i < ns.length) : atI (ns.map V.int) (i : Int) = some (.int ns[i]) := atI_nat (by rw [List.getElem?_map, List.getElem?_eq_getElem h]; rfl)
end Bk
set_option Elab.async false
set_option linter.all false
set_option maxRecDepth 100000
set_option maxHeartbeats 4000000
/-! Bk7: sizes of numbers, the found pair's parts, values told apart. -/
namespace Bk
open PySem PySem.Spec PyProof.Rows L2
/-- within n bits -/
def Bits (n : Nat) (i : Int) : Prop := i.natAbs < 2 ^ n
instance instBits (n : Nat) (i : Int) : Decidable (Bits n i) := inferInstanceAs (Decidable (i.natAbs < 2 ^ n))
theorem Bits.le {n m : Nat} {i : Int} (h : Bits n i) (hm : n ≤ m := by decide) : Bits m i := Nat.lt_of_lt_of_le h (Nat.pow_le_pow_right (by decide) hm)
theorem Bits.mul {n m : Nat} {i j : Int} (h : Bits n i) (g : Bits m j) : Bits (n + m) (i * j) := by
  unfold Bits at *
  rw [Int.natAbs_mul, Nat.pow_add]
  exact Nat.mul_lt_mul'' h g
theorem Bits.of_le {n : Nat} {i j : Int} (h : Bits n j) (g : i.natAbs ≤ j.natAbs) : Bits n i := Nat.lt_of_le_of_lt g h
theorem Bits.log {n : Nat} {i : Int} (h : Bits n i) (hn : 0 < n := by decide) : i.natAbs.log2 < n := by
  by_cases c : i.natAbs = 0
  · rw [c]
    exact hn
  · exact (Nat.log2_lt c).2 h
theorem Bits.cm {n m : Nat} {i j : Int} (h : Bits n i) (g : Bits m j) (hn : n ≤ 1000 := by decide) (hm : m ≤ 900000 := by decide) : CMm i j := by
  refine .inr (mulL ?_ ?_)
  · exact (h.le hn).log
  · by_cases c : j.natAbs = 0
    · rw [c]
      decide
    · exact Nat.lt_of_lt_of_le ((Nat.log2_lt c).2 g) hm
theorem Bits.fd {n : Nat} {i j : Int} (h : Bits n j) (h0 : j ≠ 0) (hn : n ≤ 9000 := by decide) : CFd i j := by
  refine ⟨h0, ?_⟩
  exact Nat.lt_of_lt_of_le ((Nat.log2_lt (by omega)).2 h) hn
theorem fdiv_le {i j : Int} (h : j ≠ 0) (d : j ∣ i) : (i.fdiv j).natAbs ≤ i.natAbs := by
  rw [Int.fdiv_eq_ediv_of_dvd d]
  exact Int.natAbs_ediv_le_natAbs _ _
theorem Bits.of_fdiv {n : Nat} {i j : Int} (b : Bits n i) (h : j ≠ 0) (d : j ∣ i) : Bits n (i.fdiv j) := b.of_le (fdiv_le h d)
theorem gcd_bits {n : Nat} {u l : Int} (h : l ≠ 0) (b : Bits n l) : Bits n (Int.gcd u l : Nat) := by
  refine b.of_le ?_
  rw [Int.natAbs_natCast]
  exact Nat.le_of_dvd (by omega) (Nat.gcd_dvd_right u.natAbs l.natAbs)
/-- what the two parts are divided by -/
def fpt (u l : Int) : Int := if l < 0 then 0 - (Int.gcd u l : Nat) else (Int.gcd u l : Nat)
theorem fpt_ne {u l : Int} (h : l ≠ 0) : fpt u l ≠ 0 := by
  have e : Int.gcd u l ≠ 0 := fun z => h (Int.gcd_eq_zero_iff.1 z).2
  unfold fpt
  split <;> omega
theorem fpt_bits {n : Nat} {u l : Int} (h : l ≠ 0) (b : Bits n l) : Bits n (fpt u l) := by
  have g := gcd_bits (u := u) h b
  unfold fpt
  split
  · unfold Bits at *
    omega
  · exact g
theorem fpt_l (u l : Int) : fpt u l ∣ l := by
  unfold fpt
  split
  · rw [Int.zero_sub]
    exact Int.neg_dvd.2 (Int.gcd_dvd_right u l)
  · exact Int.gcd_dvd_right u l
theorem fpt_u (u l : Int) : fpt u l ∣ u := by
  unfold fpt
  split
  · rw [Int.zero_sub]
    exact Int.neg_dvd.2 (Int.gcd_dvd_left u l)
  · exact Int.gcd_dvd_left u l
/-- u / l in lowest terms -/
def fru (u l : Int) : Int := u.fdiv (fpt u l)
def frl (u l : Int) : Int := l.fdiv (fpt u l)
theorem fru_bits {n : Nat} {u l : Int} (h : l ≠ 0) (b : Bits n u) : Bits n (fru u l) := b.of_fdiv (fpt_ne h) (fpt_u u l)
theorem frl_bits {n : Nat} {u l : Int} (h : l ≠ 0) (b : Bits n l) : Bits n (frl u l) := b.of_fdiv (fpt_ne h) (fpt_l u l)
theorem frl_pos {u l : Int} (h : l ≠ 0) : 0 < frl u l := by
  have e : frl u l * fpt u l = l := by
    unfold frl
    rw [Int.fdiv_eq_ediv_of_dvd (fpt_l u l)]
    exact Int.ediv_mul_cancel (fpt_l u l)
  have g : 0 < Int.gcd u l := Nat.pos_of_ne_zero fun z => h (Int.gcd_eq_zero_iff.1 z).2
  by_cases c : l < 0
  · have f : fpt u l = 0 - (Int.gcd u l : Nat) := if_pos c
    rw [f] at e
    by_cases k : 0 < frl u l
    · exact k
    · exfalso
      have : 0 ≤ frl u l * (0 - (Int.gcd u l : Nat)) := Int.mul_nonneg_of_nonpos_of_nonpos (by omega) (by omega)
      omega
  · have f : fpt u l = (Int.gcd u l : Nat) := if_neg c
    rw [f] at e
    by_cases k : 0 < frl u l
    · exact k
    · exfalso
      have : frl u l * (Int.gcd u l : Nat) ≤ 0 := Int.mul_nonpos_of_nonpos_of_nonneg (by omega) (by omega)
      omega
def spFrac (CN : Addr) : Sp := fun vs H Q E => ∃ u l : Int, vs = [.int u, .int l] ∧ Bits 2000 u ∧ Bits 2000 l ∧ (l = 0 → E (.ref CN) none H) ∧ (l ≠ 0 → ∀ p, H p = none → Q (.ref p) (upd H p (.tup [.int (fru u l), .int (frl u l)])))
end Bk
set_option Elab.async false
set_option linter.all false
set_option maxRecDepth 100000
set_option maxHeartbeats 4000000
/-! Bk8: two values of one reading are alike: what the laws' comparison needs. -/
namespace Bk
open PySem PySem.Spec PyProof.Rows L2
def D.tag : D → String
  | .non => "NoneType" | .bl _ => "bool" | .int _ => "int" | .str _ => "str" | .tup _ => "tuple" | .lst _ => "list"
def D.isT : D → Bool
  | .tup _ => true | _ => false
def D.isL : D → Bool
  | .lst _ => true | _ => false
def D.isB : D → Bool
  | .bl _ => true | _ => false
def D.isI : D → Bool
  | .int _ => true | .bl _ => true | _ => false
theorem Rep.ty {K : PySem.W.Frag} {H : Hp} {d : D} {v : V} (h : Rep H d v) : Ty K H v d.tag := by
  cases d <;> simp only [Rep] at h
  · subst h; exact .non
  · subst h; exact .bl _
  · subst h; exact .int _
  · subst h; exact .str _
  · obtain ⟨a, vs, rfl, e, _⟩ := h; exact .tup e
  · obtain ⟨a, vs, rfl, e, _⟩ := h; exact .lst e
theorem kit_tup (d : D) : kitB d.tag "tuple" = some d.isT := by cases d <;> simp only [D.tag, D.isT, D.isL, D.isB, D.isI] <;> decide +kernel
theorem kit_lst (d : D) : kitB d.tag "list" = some d.isL := by cases d <;> simp only [D.tag, D.isT, D.isL, D.isB, D.isI] <;> decide +kernel
theorem kit_bl (d : D) : kitB d.tag "bool" = some d.isB := by cases d <;> simp only [D.tag, D.isT, D.isL, D.isB, D.isI] <;> decide +kernel
theorem kit_int (d : D) : kitB d.tag "int" = some d.isI := by cases d <;> simp only [D.tag, D.isT, D.isL, D.isB, D.isI] <;> decide +kernel
section
variable {K : PySem.W.Frag} {H H0 H1 H2 : Hp} {Q : VK} {d : D} {v w : V}
theorem g_isD {T : String} {b : Bool} (r : Rep H d v) (e : kitB d.tag T = some b) (h : Q (.bl b) H) : uIs K [v, .ty T] H Q := ⟨_, b, r.ty, e, h⟩
theorem g_isTD {p : Addr} (r : Rep H d v) (hp : H p = some (.tup [.ty "tuple", .ty "list"])) (h : Q (.bl (d.isT || d.isL)) H) : uIsT K [v, .ref p] H Q := ⟨_, _, _, _, _, hp, r.ty, kit_tup d, kit_lst d, h⟩
theorem g_neBB {b : Bool} (h : Q (.bl false) H) : rNe (.bl b) (.bl b) H Q := ⟨rfl, by rw [decide_eq_true rfl]; exact h⟩
theorem g_neD (r : Rep H0 d v) (r' : Rep H0 d w) (ht : (d.isT || d.isL) = false) (h : Q (.bl false) H) : rNe v w H Q := by
  cases d <;> simp only [Rep] at r r'
  · subst r; subst r'; exact ⟨rfl, by rw [decide_eq_true rfl]; exact h⟩
  · subst r; subst r'; exact ⟨rfl, by rw [decide_eq_true rfl]; exact h⟩
  · subst r; subst r'; exact ⟨rfl, by rw [decide_eq_true rfl]; exact h⟩
  · subst r; subst r'; exact ⟨rfl, by rw [decide_eq_true rfl]; exact h⟩
  · cases ht
  · cases ht
theorem g_pop {l : Addr} {xs : List V} {y : V} (hl : H l = some (.lst (xs ++ [y]))) (h : Q y (upd H l (.lst xs))) : rPop (.ref l) [] H Q := by
  refine ⟨l, _, y, rfl, rfl, hl, ?_, ?_⟩
  · rw [List.length_append, List.length_singleton, Nat.add_sub_cancel, List.getElem?_append_right (Nat.le_refl _), Nat.sub_self]
    rfl
  · rw [List.dropLast_concat]
    exact h
theorem g_ext {l b : Addr} {xs zs : List V} (hl : H l = some (.lst xs)) (hb : H b = some (.lst zs)) (hz : xs.length + zs.length ≤ 1000000) (h : Q .non (upd H l (.lst (xs ++ zs)))) : rExtend (.ref l) [.ref b] H Q :=
  ⟨l, b, xs, zs, rfl, rfl, hl, hb, Nat.le_trans hz (by decide), h⟩
end
section
variable {K : PySem.W.Frag} {H H0 H1 H2 : Hp} {Q : VK} {d : D} {v w : V}
theorem D.open {d : D} (k : (d.isT || d.isL) = true) (r : Rep H0 d v) (r' : Rep H0 d w) : ∃ (a b : Addr) (ds : List D) (xs ys : List V), v = .ref a ∧ w = .ref b ∧ Reps H0 ds xs ∧ Reps H0 ds ys ∧ d.size = 1 + D.sizes ds ∧ ((H0 a = some (.tup xs) ∧ H0 b = some (.tup ys)) ∨ (H0 a = some (.lst xs) ∧ H0 b = some (.lst ys))) := by
  cases d <;> simp only [Rep] at r r'
  · cases k
  · cases k
  · cases k
  · cases k
  · rename_i ds
    obtain ⟨a, xs, rfl, ha, ra⟩ := r
    obtain ⟨b, ys, rfl, hb, rb⟩ := r'
    exact ⟨a, b, ds, xs, ys, rfl, rfl, ra, rb, by simp only [D.size], .inl ⟨ha, hb⟩⟩
  · rename_i ds
    obtain ⟨a, xs, rfl, ha, ra⟩ := r
    obtain ⟨b, ys, rfl, hb, rb⟩ := r'
    exact ⟨a, b, ds, xs, ys, rfl, rfl, ra, rb, by simp only [D.size], .inr ⟨ha, hb⟩⟩
theorem Reps.len2 {ds : List D} {xs ys : List V} (h : Reps H ds xs) (h' : Reps H ds ys) : xs.length = ys.length := h.len.trans h'.len.symm
theorem both_ex {a b : Addr} {xs ys : List V} (e : Ex H0 H) (h : (H0 a = some (.tup xs) ∧ H0 b = some (.tup ys)) ∨ (H0 a = some (.lst xs) ∧ H0 b = some (.lst ys))) : (H a = some (.tup xs) ∧ H b = some (.tup ys)) ∨ (H a = some (.lst xs) ∧ H b = some (.lst ys)) := by
  rcases h with ⟨h1, h2⟩ | ⟨h1, h2⟩
  · exact .inl ⟨e _ _ h1, e _ _ h2⟩
  · exact .inr ⟨e _ _ h1, e _ _ h2⟩
theorem both_sq {a b : Addr} {xs ys : List V} (h : (H a = some (.tup xs) ∧ H b = some (.tup ys)) ∨ (H a = some (.lst xs) ∧ H b = some (.lst ys))) : (SqT K H a xs ∧ SqT K H b ys) ∨ (SqL K H a xs ∧ SqL K H b ys) := by
  rcases h with ⟨h1, h2⟩ | ⟨h1, h2⟩
  · exact .inl ⟨sqT h1, sqT h2⟩
  · exact .inr ⟨sqL h1, sqL h2⟩
theorem g_len2a {a b : Addr} {xs ys : List V} (h : (H a = some (.tup xs) ∧ H b = some (.tup ys)) ∨ (H a = some (.lst xs) ∧ H b = some (.lst ys))) (q : Q (.int (xs.length : Nat)) H) : uLen K [.ref a] H Q := by
  rcases h with ⟨h1, h2⟩ | ⟨h1, h2⟩
  · exact g_lenT h1 q
  · exact g_lenL h1 q
theorem g_len2b {a b : Addr} {xs ys : List V} (h : (H a = some (.tup xs) ∧ H b = some (.tup ys)) ∨ (H a = some (.lst xs) ∧ H b = some (.lst ys))) (q : Q (.int (ys.length : Nat)) H) : uLen K [.ref b] H Q := by
  rcases h with ⟨h1, h2⟩ | ⟨h1, h2⟩
  · exact g_lenT h2 q
  · exact g_lenL h2 q
theorem g_lz {ta : TA} {σ : L2.St} (h : ta σ H fun vs H1 => ∃ a b xs ys, vs = [.ref a, .ref b] ∧ xs.length = ys.length ∧ ((SqT K H1 a xs ∧ SqT K H1 b ys) ∨ (SqL K H1 a xs ∧ SqL K H1 b ys)) ∧
  ∀ (H' : Hp) (p : Addr) (ts : List Addr), Ex H1 H' → H1 p = none → (∀ t ∈ ts, H1 t = none) → p ∉ ts → H' p = some (.lst (ts.map V.ref)) → Prz H' ts xs ys → Q (.ref p) H') : uLZ K ta σ H Q := h
end
/-- a pair of two of one reading -/
def Pr (H0 H1 : Hp) (d : D) (t : V) : Prop := ∃ a v w, t = .ref a ∧ H1 a = some (.tup [v, w]) ∧ Rep H0 d v ∧ Rep H0 d w
/-- a pile of such, of a size in all -/
inductive PrS (H0 H1 : Hp) : Nat → List V → Prop where
  | nil : PrS H0 H1 0 []
  | snoc {n : Nat} {ts : List V} {d : D} {t : V} (h : PrS H0 H1 n ts) (r : Pr H0 H1 d t) : PrS H0 H1 (n + d.size) (ts ++ [t])
theorem PrS.len {H0 H1 : Hp} {n : Nat} {ts : List V} (h : PrS H0 H1 n ts) : ts.length ≤ n := by
  induction h with
  | nil => exact Nat.le_refl _
  | @snoc n ts d t h r ih =>
    have := d.size_pos
    rw [List.length_append, List.length_singleton]
    omega
theorem PrS.tk {H0 H1 H2 : Hp} {n : Nat} {ts : List V} (e : Tk H1 H2) (h : PrS H0 H1 n ts) : PrS H0 H2 n ts := by
  induction h with
  | nil => exact .nil
  | snoc h r ih =>
    obtain ⟨a, v, w, rfl, ha, rv, rw'⟩ := r
    exact .snoc ih ⟨a, v, w, rfl, e _ _ ha, rv, rw'⟩
theorem PrS.ext {H0 H1 : Hp} : ∀ {ds : List D} {xs ys : List V} {tl : List Addr} {n : Nat} {ts : List V}, Reps H0 ds xs → Reps H0 ds ys → Prz H1 tl xs ys → PrS H0 H1 n ts → PrS H0 H1 (n + D.sizes ds) (ts ++ tl.map V.ref)
  | [], xs, ys, tl, n, ts, hx, hy, hp, h => by
    simp only [Reps] at hx hy
    subst hx
    have e : tl = [] := List.eq_nil_of_length_eq_zero hp.1
    subst e
    simpa [D.sizes] using h
  | d :: ds, xs, ys, tl, n, ts, hx, hy, hp, h => by
    simp only [Reps] at hx hy
    obtain ⟨x, xr, rfl, rx, hx⟩ := hx
    obtain ⟨y, yr, rfl, ry, hy⟩ := hy
    cases tl with
    | nil => cases hp.1
    | cons t tl =>
      obtain ⟨x', y', ex, ey, ht⟩ := hp.2 0 t rfl
      cases ex
      cases ey
      have hp' : Prz H1 tl xr yr := ⟨Nat.succ.inj hp.1, fun j u hu => by
        obtain ⟨a, b, q⟩ := hp.2 (j + 1) u hu
        exact ⟨a, b, q⟩⟩
      have z := PrS.ext hx hy hp' (h.snoc ⟨t, x, y, rfl, ht, rx, ry⟩)
      have e1 : n + D.sizes (d :: ds) = n + d.size + D.sizes ds := by simp only [D.sizes]; omega
      have e2 : ts ++ (t :: tl).map V.ref = ts ++ [V.ref t] ++ tl.map V.ref := by simp
      rw [e1, e2]
      exact z
/-- what the comparison promises -/
def spAlike : Sp := fun vs H Q _ => ∃ (d : D) (v w : V), vs = [v, w] ∧ Rep H d v ∧ Rep H d w ∧ d.size ≤ 400000 ∧ ∀ H', Ex H H' → Q (.bl true) H'
theorem prz_len {H : Hp} {ts : List Addr} {xs ys : List V} (h : Prz H ts xs ys) : (ts.map V.ref).length = xs.length := by rw [List.length_map]; exact h.1
theorem sizes_len : ∀ ds : List D, ds.length ≤ D.sizes ds
  | [] => Nat.le_refl _
  | d :: ds => by
    have := sizes_len ds
    have := d.size_pos
    simp only [D.sizes, List.length_cons]
    omega
/-! ### isinstance of a caught error -/
theorem kit_sub {K : PySem.W.Frag} {C : Addr} {T : String} {b : Bool} (h : PySem.W.subIn K (.ref C) (.type T) = some b) (hm : PySem.W.kitMeta T = true := by decide +kernel) : PySem.W.kitOne K (.ref C) (.type T) = some b := by
  unfold PySem.W.kitOne PySem.W.kitCls
  show (if PySem.W.kitMeta T = true then PySem.W.subIn K (.ref C) (.type T) else none) = some b
  rw [if_pos hm]
  exact h
theorem kit_own {K : PySem.W.Frag} {C D : Addr} {b : Bool} (h : PySem.W.subIn K (.ref C) (.ref D) = some b) (hs : PySem.W.subIn K (.ref C) (.ref C) = some true) (hi : PySem.W.isClsIn K D = true) (ht : PySem.W.typeIn K (.ref D) = some (.type "type")) : PySem.W.kitOne K (.ref C) (.ref D) = some b := by
  unfold PySem.W.kitOne
  by_cases c : (Value.ref C == Value.ref D) = true
  · have e : Value.ref C = Value.ref D := beq_iff_eq.mp c
    rw [e] at h
    rw [if_pos c]
    cases e
    rw [h] at hs
    exact hs.symm
  · rw [if_neg c]
    have z : ((PySem.W.clsIn K D).isSome && PySem.W.typeIn K (.ref D) == some (.type "type")) = true := by
      have z1 : (PySem.W.clsIn K D).isSome = true := hi
      rw [z1, ht] <;> rfl
    show (if ((PySem.W.clsIn K D).isSome && PySem.W.typeIn K (.ref D) == some (.type "type")) = true then PySem.W.subIn K (.ref C) (.ref D) else none) = some b
    rw [if_pos z]
    exact h
/-! ### lowest terms, as the laws find them -/
theorem max_fpt {u l : Int} (h : 0 < l) : max 1 (Int.gcd u l : Int) = fpt u l := by
  have g : 0 < Int.gcd u l := Nat.pos_of_ne_zero fun z => by
    have := (Int.gcd_eq_zero_iff.1 z).2
    omega
  unfold fpt
  rw [if_neg (by omega)]
  omega
/-- lowest(u, l), l above nought -/
def spLow : Sp := fun vs H Q _ => ∃ u l : Int, vs = [.int u, .int l] ∧ Bits 2000 u ∧ Bits 2000 l ∧ 0 < l ∧ ∀ p, H p = none → Q (.ref p) (upd H p (.tup [.int (fru u l), .int (frl u l)]))
theorem Rep.two {H : Hp} {a : Addr} {x y : V} {d e : D} (h : H a = some (.tup [x, y])) (r : Rep H d x) (s : Rep H e y) : Rep H (.tup [d, e]) (.ref a) := by
  simp only [Rep, Reps]
  exact ⟨a, _, rfl, h, x, _, rfl, r, y, _, rfl, s, rfl⟩
theorem Rep.three {H : Hp} {a : Addr} {x y z : V} {d e f : D} (h : H a = some (.tup [x, y, z])) (r : Rep H d x) (s : Rep H e y) (t : Rep H f z) : Rep H (.tup [d, e, f]) (.ref a) := by
  simp only [Rep, Reps]
  exact ⟨a, _, rfl, h, x, _, rfl, r, y, _, rfl, s, z, _, rfl, t, rfl⟩
theorem Rep.i {H : Hp} (n : Int) : Rep H (.int n) (.int n) := by simp only [Rep]
theorem Rep.s {H : Hp} (n : Str) : Rep H (.str n) (.str n) := by simp only [Rep]
theorem Rep.b {H : Hp} (n : Bool) : Rep H (.bl n) (.bl n) := by simp only [Rep]
theorem Rep.n {H : Hp} : Rep H .non .non := by simp only [Rep]
/-- a fraction of the laws, as it stands -/
def Fr (H : Hp) (p : Addr) (a b : Int) : Prop := H p = some (.tup [.int a, .int b]) ∧ Bits 300 a ∧ Bits 300 b ∧ 0 < b
/-- such a one, as a value -/
def Good (H : Hp) (v : V) : Prop := ∃ (p : Addr) (a b : Int), v = .ref p ∧ Fr H p a b
theorem Good.ex {H H' : Hp} {v : V} (e : Ex H H') (g : Good H v) : Good H' v := by
  obtain ⟨p, a, b, rfl, h, x⟩ := g
  exact ⟨p, a, b, rfl, e _ _ h, x⟩
theorem Good.tk {H H' : Hp} {v : V} (e : Tk H H') (g : Good H v) : Good H' v := by
  obtain ⟨p, a, b, rfl, h, x⟩ := g
  exact ⟨p, a, b, rfl, e _ _ h, x⟩
theorem Good.fr {H : Hp} {p : Addr} {u l : Int} (h : H p = some (.tup [.int (fru u l), .int (frl u l)])) (hl : l ≠ 0) (bu : Bits 300 u) (bl : Bits 300 l) : Good H (.ref p) := ⟨p, _, _, rfl, h, fru_bits hl bu, frl_bits hl bl, frl_pos hl⟩
section
variable {K : PySem.W.Frag} {H : Hp} {Q : VK} {σ : L2.St}
theorem g_sl {r : V → Option Int → Option Int → Hp → VK → Prop} {te : TE} {tl th : TO} (h : te σ H fun x H1 => tl σ H1 fun l H2 => th σ H2 fun u H3 => r x l u H3 Q) : tSl r te tl th σ H Q := h
theorem g_noP {P : Option Int → Hp → Prop} (h : P none H) : tNoPart σ H P := h
theorem g_catL {a b : Addr} {xs ys : List V} (ha : H a = some (.lst xs)) (hb : H b = some (.lst ys)) (hl : xs.length + ys.length ≤ 1000000) (h : ∀ p, H p = none → Q (.ref p) (upd H p (.lst (xs ++ ys)))) : uAdd K (.ref a) (.ref b) H Q :=
  .inl ⟨a, b, xs, ys, rfl, rfl, ha, hb, Nat.le_trans hl (by decide), h⟩
theorem g_part {te : TE} {P : Option Int → Hp → Prop} (h : te σ H fun x H1 => ∃ i, x = .int i ∧ P (some i) H1) : tPart te σ H P := h
theorem g_exI {i : Int} {P : Int → Prop} (h : P i) : ∃ j, V.int i = .int j ∧ P j := ⟨i, rfl, h⟩
end
theorem g_zipA {K : PySem.W.Frag} {ta : TA} {σ : L2.St} {H : Hp} {R : It → Hp → Prop} (h : ta σ H fun vs H1 => ∃ a b xs ys, vs = [.ref a, .ref b] ∧ ((SqL K H1 a xs ∧ SqL K H1 b ys ∧ R (Itz K a b) H1) ∨ (SqT K H1 a xs ∧ SqT K H1 b ys ∧ R (RZ.ItzT K a b) H1))) : RZ.iZipA K ta σ H R := h
end Bk
set_option Elab.async false
set_option linter.all false
set_option maxRecDepth 100000
set_option maxHeartbeats 4000000
/-! Bk9: enumerate over a tuple. -/
namespace Bk
open PySem PySem.Spec PyProof.Rows L2
open AutoSeq1 (wpAny_loadPart')
end Bk
set_option Elab.async false
set_option linter.all false
set_option maxRecDepth 100000
set_option maxHeartbeats 4000000
/-! Bk10: walks over enumerate; in, slices, tuple(..), join, all, dicts by readings that compute. -/
namespace Bk
open PySem PySem.Spec PyProof.Rows L2
section
variable {X : Cx}
/-- as ut, the facts K told (within a comprehension) -/
theorem utK (K : PySem.W.Frag) {e : Expr} {te : TE} (h : PE X e te) (hK : X.K = K := by rfl) (he : ∀ whole, isTrue e X.env whole = (do let v ← whole; standAt e.pos; holding [v] (truthy v)) := by intro _; rfl) : PT X e (uT K te) := by
  subst hK
  exact ut h he
/-- in: a sign in a text, a flat thing in a list or a tuple -/
def uIn (K : PySem.W.Frag) (neg : Bool) : R2 := fun x y H Q => match x, y with
  | .str c, .str z => c.cps.size = 1 ∧ Q (.bl (if neg then !decide (c.cps.toList.headD 0 ∈ z.cps.toList) else decide (c.cps.toList.headD 0 ∈ z.cps.toList))) H
  | x, .ref p => ∃ xs, (SqL K H p xs ∨ SqT K H p xs) ∧ flatV x = true ∧ xs.all flatV = true ∧ Q (.bl (if neg then !inV x xs else inV x xs)) H
  | _, _ => False
theorem one_sign {c : Str} (h : c.cps.size = 1) : c = ⟨#[c.cps.toList.headD 0]⟩ := by
  obtain ⟨⟨l⟩⟩ := c
  match l, h with
  | [a], _ => rfl
theorem uo_in : OpR X (compareOp .In) (uIn X.K false) := by
  intro pins s σ H x y v u Q I rx ry h
  unfold uIn at h
  split at h
  · rename_i c z
    exact op_in_sign pins s σ H _ _ v u Q I rx ry ⟨_, z, congrArg V.str (one_sign h.1), rfl, h.2⟩
  · obtain ⟨xs, a, b, c, d⟩ := h
    exact op_in_seq pins s σ H _ _ v u Q I rx ry ⟨_, xs, rfl, a, b, c, d⟩
  · exact h.elim
end
section
variable {X : Cx}
/-- a slice of a text, a list, a tuple -/
def uSl (K : PySem.W.Frag) : V → Option Int → Option Int → Hp → VK → Prop := fun x lo hi H Q => match x with
  | .str z => z.length ≤ sizeLine ∧ Q (.str (cutS z lo hi)) H
  | .ref a => rSlL K (.ref a) lo hi H Q ∨ rSlA K (.ref a) lo hi H Q
  | _ => False
theorem us_sl : SlR X (uSl X.K) := by
  intro pins s σ H x v vl vu lo hi sl Q I rx hs pl pu h
  unfold uSl at h
  split at h
  · exact sl_str pins s σ H _ v vl vu lo hi sl Q I rx hs pl pu ⟨_, rfl, h⟩
  · exact (sl_list.or sl_tupA) pins s σ H _ v vl vu lo hi sl Q I rx hs pl pu h
  · exact h.elim
end
section
variable {K : PySem.W.Frag} {H : Hp} {Q : VK} {σ : L2.St} {neg : Bool}
theorem g_lcU {wi : TI} {g : TG} {tt : TT} {te : TE} {vs : List Nat} (h : wi σ H fun J H1 => ∀ D, H1 D = none → ∃ W : Nat → Nat → Hp → Prop, (∃ m, W 0 m (upd H1 D (.lst []))) ∧ ∀ i m H, W i m H →
    (J.stop i H ∧ Q (.ref D) H) ∨ (J.go i H ∧ ∃ Nx : Hp → Prop, (∀ H', Nx H' → ∃ m', m' < m ∧ W (i + 1) m' H') ∧ ∀ x H', J.yld i H x H' → g x (wipe σ vs) H' fun σ2 H2 => wipe σ2 vs = wipe σ vs ∧ tt σ2 H2 fun b H3 =>
      if b = true then te σ2 H3 fun y H4 => ∃ acc, H4 D = some (.lst acc) ∧ acc.length < sizeLine ∧ Nx (upd H4 D (.lst (acc ++ [y]))) else Nx H3)) : tLc wi g tt te vs σ H Q := h
theorem g_yes {q : Bool → Hp → Prop} (h : q true H) : tYes σ H q := h
theorem g_inS {c z : Str} (e : c.cps.size = 1) (h : Q (.bl (decide (c.cps.toList.headD 0 ∈ z.cps.toList))) H) : uIn K false (.str c) (.str z) H Q := ⟨e, h⟩
theorem g_slS {z : Str} {lo hi : Option Int} (e : z.length ≤ 1000000) (h : Q (.str (cutS z lo hi)) H) : uSl K (.str z) lo hi H Q := ⟨Nat.le_trans e (by decide), h⟩
theorem g_ixS {z : Str} {i : Int} {c : Nat} (e : atI z.cps.toList i = some c) (hz : z.length ≤ 1000000) (h : Q (.str ⟨#[c]⟩) H) : uIx K (.str z) (.int i) H Q := ⟨Nat.le_trans hz (by decide), c, e, h⟩
theorem g_lenStr {z : Str} (e : z.length ≤ 1000000) (h : Q (.int (z.length : Nat)) H) : uLen K [.str z] H Q := ⟨Nat.le_trans e (by decide), h⟩
theorem g_all {a : Addr} {bs : List Bool} (ha : H a = some (.lst (bs.map V.bl))) (h : Q (.bl (bs.all id)) H) : rAll K [.ref a] H Q := ⟨a, bs, rfl, sqL ha, h⟩
theorem g_seqSs {td : TE} {R : It → Hp → Prop} (h : td σ H fun v H1 => ∃ x, v = .str x ∧ R (Its x) H1) : uSeq K td σ H R := .inr (.inr h)
/-! dicts -/
section
variable {td ty tv tx : TE} {D : Ends} {p : Addr} {kvs : List (L2.Key × V)} {s : Str} {v z : V}
theorem g_dg (h : td σ H fun x H1 => ty σ H1 fun y H2 => ∃ a v, x = .ref a ∧ DGet H2 a y (some v) ∧ Q v H2) : tDGet td ty σ H Q := h
theorem g_di (h : ty σ H fun y H1 => td σ H1 fun x H2 => ∃ a o, x = .ref a ∧ DGet H2 a y o ∧ Q (.bl o.isSome) H2) : tDIn ty td σ H Q := h
theorem g_dni (h : ty σ H fun y H1 => td σ H1 fun x H2 => ∃ a o, x = .ref a ∧ DGet H2 a y o ∧ Q (.bl (!o.isSome)) H2) : tDNotIn ty td σ H Q := h
theorem g_dp (h : tv σ H fun v H1 => td σ H1 fun x H2 => ty σ H2 fun y H3 => ∃ a H4, x = .ref a ∧ DPut H3 a y v H4 ∧ D.nx σ H4) : sDPut td ty tv D σ H := h
theorem g_ds (h : td σ H fun x H1 => ∃ a, x = .ref a ∧ IsD H1 a ∧ ty σ H1 fun y H2 => tx σ H2 fun z H3 => ∃ (kvs : List (L2.Key × V)) (k : L2.Key), H3 a = some (.dK kvs) ∧ y = kV k ∧ kvs.length < sizeLine ∧
  (∀ v, valV kvs k = some v → Q v H3) ∧ (valV kvs k = none → Q z (upd H3 a (.dK (putK kvs k z))))) : tDSetd td ty tx σ H Q := h
end
end
/-! ### names and woods -/
def lettersS : Str := "abcdefghijklmnopqrstuvwxyz"
def isName (s : Str) : Bool := !decide (s = "kind") && decide (1 ≤ s.length ∧ s.length ≤ 6) && s.cps.toList.all fun c => decide (c ∈ lettersS.cps.toList)
/-- kind, its makers: name and parts -/
abbrev Mk := Str × List Str
abbrev Wd := List (Str × List Mk)
def partsD (ps : List Str) : D := .tup (ps.map D.str)
def mkD (m : Mk) : D := .tup [.str m.1, partsD m.2]
def kindD (k : Str × List Mk) : D := .tup [.str k.1, .tup (k.2.map mkD)]
def woodD (w : Wd) : D := .tup (w.map kindD)
/-! ### comprehensions that map -/
section
variable {J : It} {n : Nat} {G : Hp → Prop} {Y : Nat → Hp → V → Hp → Prop} {g : TG} {te : TE} {vs : List Nat} {σ : L2.St} {H1 : Hp} {D : Addr} {Qd : Hp → Prop}
/-- nothing but new objects; R of each item -/
theorem lc_mapE (w : Walk J n G Y) (R : Nat → Hp → V → Prop) (hn : n ≤ 16000000) (hD : H1 D = none) (hR : ∀ j H H' v, Tk H H' → R j H v → R j H' v) (hG : ∀ H, Ex H1 H → G H)
    (hs : ∀ i x H H' (P : VK) (N : Hp → Prop), i < n → Ex H1 H → Y i H x H' → (∀ y H4, Ex H H4 → R i H4 y → P y H4) → g x (wipe σ vs) H' fun σ2 H2 => wipe σ2 vs = wipe σ vs ∧ tYes σ2 H2 fun b H3 => if b = true then te σ2 H3 P else N H3)
    (hd : ∀ H' acc, Ex H1 H' → H' D = some (.lst acc) → acc.length = n → (∀ j v, acc[j]? = some v → R j H' v) → Qd H') :
    ∃ W : Nat → Nat → Hp → Prop, (∃ m, W 0 m (upd H1 D (.lst []))) ∧ ∀ i m H, W i m H →
      (J.stop i H ∧ Qd H) ∨ (J.go i H ∧ ∃ Nx : Hp → Prop, (∀ H', Nx H' → ∃ m', m' < m ∧ W (i + 1) m' H') ∧ ∀ x H', J.yld i H x H' → g x (wipe σ vs) H' fun σ2 H2 => wipe σ2 vs = wipe σ vs ∧ tYes σ2 H2 fun b H3 =>
        if b = true then te σ2 H3 fun y H4 => ∃ acc, H4 D = some (.lst acc) ∧ acc.length < sizeLine ∧ Nx (upd H4 D (.lst (acc ++ [y]))) else Nx H3) := by
  refine lc_it w (fun i H => Ex H1 H ∧ ∃ acc, H D = some (.lst acc) ∧ acc.length = i ∧ ∀ j v, acc[j]? = some v → R j H v) ⟨Ex.new hD, [], upd_same, rfl, fun j v z => by simp at z⟩ (fun i H _ p => hG H p.1) ?_ fun H p => ?_
  · rintro i x H H' hi ⟨e, acc, ha, hl, hr⟩ y
    refine hs i x H H' _ _ hi e y fun u H4 e4 r4 => ?_
    have a4 := e4 _ _ ha
    refine ⟨acc, a4, Nat.lt_of_le_of_lt (by omega : acc.length ≤ 16000000) (by decide), (e.trans e4).at_new hD, _, upd_same, by rw [List.length_append, hl]; rfl, fun j v hj => ?_⟩
    have b5 : Tk H4 (upd H4 D (.lst (acc ++ [u]))) := ((But.refl D H4).upd).tkl a4
    by_cases c : j < acc.length
    · rw [List.getElem?_append_left c] at hj
      exact hR _ _ _ _ b5 (hR _ _ _ _ e4.tk (hr j v hj))
    · rw [List.getElem?_append_right (by omega)] at hj
      have ej : j = i := by
        have := (List.getElem?_eq_some_iff.1 hj).1
        simp at this
        omega
      subst ej
      rw [hl, Nat.sub_self] at hj
      cases hj
      exact hR _ _ _ _ b5 r4
  · obtain ⟨e, acc, ha, hl, hr⟩ := p
    exact hd H acc e ha hl hr
end
end Bk
set_option Elab.async false
set_option linter.all false
set_option maxRecDepth 100000
set_option maxHeartbeats 4000000
/-! Bk11: a list's +=; equality by data; dicts of pairs; maps with draws. -/
namespace Bk
open PySem PySem.Spec PyProof.Rows L2
/-! ### kinds and makers by name -/
/-- (name, number) -/
def kvsFrom : Nat → Wd → List (L2.Key × V)
  | _, [] => []
  | n, k :: r => (.inr k.1, .int (n : Nat)) :: kvsFrom (n + 1) r
/-- makers' names, in order -/
def mkNames (w : Wd) : List Str := (w.map fun k => k.2.map Prod.fst).flatten
/-! ### the makers' table -/
/-- the number of a kind by its name -/
def kno (w : Wd) (s : Str) : Int := match valV (mergeK [] (kvsFrom 0 w)) (.inr s) with
  | some (.int i) => i
  | _ => 0
def tabFrom : Nat → Wd → List (Nat × Mk)
  | _, [] => []
  | n, k :: r => k.2.map (fun m => (n, m)) ++ tabFrom (n + 1) r
theorem tab_split : ∀ (w : Wd) (n i : Nat) (k : Str × List Mk), w[i]? = some k → tabFrom n w = tabFrom n (w.take i) ++ k.2.map (fun m => (n + i, m)) ++ tabFrom (n + i + 1) (w.drop (i + 1))
  | [], n, i, k, h => by simp at h
  | a :: w, n, 0, k, h => by
    cases h
    simp [tabFrom]
  | a :: w, n, i + 1, k, h => by
    have z := tab_split w (n + 1) i k h
    have e : n + 1 + i = n + (i + 1) := by omega
    simp only [tabFrom, List.take_succ_cons, List.drop_succ_cons, z, e, List.append_assoc]
structure TabPre (w : Wd) : Prop where
  nd : ((tabFrom 0 w).map fun e => e.2.1).Nodup
  parts : ∀ k ∈ w, ∀ m ∈ k.2, (∀ s ∈ m.2, s ∈ w.map Prod.fst) ∧ m.2.length ≤ 1000
  wide : w.length ≤ 1000
  many : (tabFrom 0 w).length ≤ 1000
def EntryAt (w : Wd) (H : Hp) (kvs : List (L2.Key × V)) (e : Nat × Mk) : Prop := ∃ p t, valV kvs (.inr e.2.1) = some (.ref p) ∧ H p = some (.tup [.int (e.1 : Nat), .ref t]) ∧ H t = some (.tup (e.2.2.map fun s => .int (kno w s)))
def TabOk (w : Wd) (H : Hp) (kvs : List (L2.Key × V)) (L : List (Nat × Mk)) : Prop := kvs.length ≤ L.length ∧ ∀ e ∈ L, EntryAt w H kvs e
theorem TabOk.tk {w : Wd} {H H' : Hp} {kvs : List (L2.Key × V)} {L : List (Nat × Mk)} (t : Tk H H') (h : TabOk w H kvs L) : TabOk w H' kvs L := ⟨h.1, fun e he => by
  obtain ⟨p, q, a, b, c⟩ := h.2 e he
  exact ⟨p, q, a, t _ _ b, t _ _ c⟩⟩
theorem g_dnew {σ : L2.St} {H : Hp} {Q : VK} (h : ∀ p, H p = none → Q (.ref p) (upd H p (.dK []))) : tDNewK σ H Q := h
/-! ### a wood that is let by -/
structure WoodOk (w : Wd) : Prop where
  kinds : 1 ≤ w.length ∧ w.length ≤ 4
  name : ∀ k ∈ w, isName k.1 = true
  knd : (w.map Prod.fst).Nodup
  mkr : ∀ k ∈ w, ∀ m ∈ k.2, isName m.1 = true ∧ m.2.length ≤ 2 ∧ ∀ s ∈ m.2, s ∈ w.map Prod.fst
  nd : ((tabFrom 0 w).map fun e => e.2.1).Nodup
  many : (tabFrom 0 w).length ≤ 12
theorem WoodOk.pre {w : Wd} (h : WoodOk w) : TabPre w := ⟨h.nd, fun k hk m hm => ⟨(h.mkr k hk m hm).2.2, Nat.le_trans (h.mkr k hk m hm).2.1 (by decide)⟩, Nat.le_trans h.kinds.2 (by decide), Nat.le_trans h.many (by decide)⟩
def KeysIn (kvs : List (L2.Key × V)) (L : List Str) : Prop := kvs.length ≤ L.length ∧ (∀ s, (valV kvs (.inr s)).isSome = true ↔ s ∈ L)
theorem KeysIn.none {kvs : List (L2.Key × V)} {L : List Str} {s : Str} (h : KeysIn kvs L) (hn : s ∉ L) : valV kvs (.inr s) = none := by
  cases e : valV kvs (.inr s) with
  | none => rfl
  | some v => exact absurd ((h.2 s).1 (by rw [e]; rfl)) hn
/-! ### maps with draws -/
theorem Box.tk {H H' : Hp} {p : Addr} (b : Box H p) (e : But p H H') : Tk H H' := by
  obtain ⟨_, _, _, h⟩ := b
  exact e.tkl h
theorem Box.ne {H : Hp} {p q : Addr} (b : Box H p) (h : H q = none) : q ≠ p := fun z => by
  obtain ⟨_, _, _, hp⟩ := b
  rw [← z, h] at hp
  cases hp
theorem Box.at_upd {H : Hp} {p q : Addr} {o : HO} (b : Box H p) (h : q ≠ p) : Box (upd H q o) p := by
  obtain ⟨x, y, z, hp⟩ := b
  exact ⟨x, y, z, by rw [upd_ne (Ne.symm h)]; exact hp⟩
theorem But.at_new {p q : Addr} {H H' : Hp} {o : HO} (e : But p H H') (h : H q = none) : But p H (L2.upd H' q o) := fun a u na hu => by
  rw [upd_ne (ne_of_none hu h)]
  exact e a u na hu
/-! ### the comparison where no list stands -/
inductive PrH (H0 H1 : Hp) : Nat → List V → Prop where
  | nil : PrH H0 H1 0 []
  | snoc {n : Nat} {ts : List V} {d : D} {t : V} (h : PrH H0 H1 n ts) (r : Pr H0 H1 d t) (k : d.hard = true) : PrH H0 H1 (n + d.size) (ts ++ [t])
theorem PrH.len {H0 H1 : Hp} {n : Nat} {ts : List V} (h : PrH H0 H1 n ts) : ts.length ≤ n := by
  induction h with
  | nil => exact Nat.le_refl _
  | @snoc n ts d t h r k ih =>
    have := d.size_pos
    rw [List.length_append, List.length_singleton]
    omega
theorem PrH.tk {H0 H1 H2 : Hp} {n : Nat} {ts : List V} (e : Tk H1 H2) (h : PrH H0 H1 n ts) : PrH H0 H2 n ts := by
  induction h with
  | nil => exact .nil
  | snoc h r k ih =>
    obtain ⟨a, v, w, rfl, ha, rv, rw'⟩ := r
    exact .snoc ih ⟨a, v, w, rfl, e _ _ ha, rv, rw'⟩ k
theorem PrH.ext {H0 H1 : Hp} : ∀ {ds : List D} {xs ys : List V} {tl : List Addr} {n : Nat} {ts : List V}, Reps H0 ds xs → Reps H0 ds ys → D.hards ds = true → Prz H1 tl xs ys → PrH H0 H1 n ts → PrH H0 H1 (n + D.sizes ds) (ts ++ tl.map V.ref)
  | [], xs, ys, tl, n, ts, hx, hy, _, hp, h => by
    simp only [Reps] at hx hy
    subst hx
    have e : tl = [] := List.eq_nil_of_length_eq_zero hp.1
    subst e
    simpa [D.sizes] using h
  | d :: ds, xs, ys, tl, n, ts, hx, hy, hh, hp, h => by
    simp only [Reps] at hx hy
    simp only [D.hards, Bool.and_eq_true] at hh
    obtain ⟨x, xr, rfl, rx, hx⟩ := hx
    obtain ⟨y, yr, rfl, ry, hy⟩ := hy
    cases tl with
    | nil => cases hp.1
    | cons t tl =>
      obtain ⟨x', y', ex, ey, ht⟩ := hp.2 0 t rfl
      cases ex
      cases ey
      have hp' : Prz H1 tl xr yr := ⟨Nat.succ.inj hp.1, fun j u hu => by
        obtain ⟨a, b, q⟩ := hp.2 (j + 1) u hu
        exact ⟨a, b, q⟩⟩
      have z := PrH.ext hx hy hh.2 hp' (h.snoc ⟨t, x, y, rfl, ht, rx, ry⟩ hh.1)
      have e1 : n + D.sizes (d :: ds) = n + d.size + D.sizes ds := by simp only [D.sizes]; omega
      have e2 : ts ++ (t :: tl).map V.ref = ts ++ [V.ref t] ++ tl.map V.ref := by simp
      rw [e1, e2]
      exact z
end Bk
set_option Elab.async false
set_option linter.all false
set_option maxRecDepth 100000
set_option maxHeartbeats 4000000
/-! Bk12: texts joined, cut; lists of texts compared. -/
namespace Bk
open PySem PySem.Spec PyProof.Rows L2
def one (c : Nat) : Str := ⟨#[c]⟩
theorem str_len (s : Str) : s.length = s.cps.toList.length := by
  show s.cps.size = _
  simp
section
variable {K : PySem.W.Frag} {H : Hp} {Q : VK} {σ : L2.St}
theorem g_m1 {r : V → List V → Hp → VK → Prop} {to te : TE} (h : to σ H fun x H1 => (∃ a, x = .str a) ∧ te σ H1 fun y H2 => r x [y] H2 Q) : tM1 r to te σ H Q := h
theorem g_tyS {P : Prop} {a : Str} (h : P) : (∃ b, V.str a = .str b) ∧ P := ⟨⟨a, rfl⟩, h⟩
/-! lists of texts compared -/
end
/-- any text of the laws -/
def TextOk (s : Str) : Prop := s.length ≤ 1000 ∧ ∀ c ∈ s.cps.toList, c < 0x110000
instance instTextOk (s : Str) : Decidable (TextOk s) := inferInstanceAs (Decidable (s.length ≤ 1000 ∧ ∀ c ∈ s.cps.toList, c < 0x110000))
theorem atI_ex {α : Type} {l : List α} {j : Int} (h0 : 0 ≤ j) (h1 : j < l.length) : ∃ x, atI l j = some x ∧ l[j.toNat]? = some x := by
  have hj : j.toNat < l.length := by omega
  refine ⟨l[j.toNat], ?_, List.getElem?_eq_getElem hj⟩
  have z := atI_nat (List.getElem?_eq_getElem hj)
  rwa [Int.toNat_of_nonneg h0] at z
theorem atI_strs {ss : List Str} {j : Int} (h0 : 0 ≤ j) (h1 : j < ss.length) : ∃ s, atI (ss.map V.str) j = some (.str s) ∧ s ∈ ss := by
  obtain ⟨v, e, h⟩ := atI_ex (l := ss.map V.str) h0 (by rw [List.length_map]; exact h1)
  rw [List.getElem?_map] at h
  cases q : ss[j.toNat]? with
  | none => rw [q] at h; cases h
  | some s =>
    rw [q] at h
    cases h
    exact ⟨s, e, List.mem_of_getElem? q⟩
end Bk
set_option Elab.async false
set_option linter.all false
set_option maxRecDepth 100000
set_option maxHeartbeats 4000000
/-! Bk13: names drawn. -/
namespace Bk
open PySem PySem.Spec PyProof.Rows L2
theorem letters_list : lettersS.cps.toList = (List.range 26).map (97 + ·) := by decide +kernel
theorem letters_mem {c : Nat} : c ∈ lettersS.cps.toList ↔ ∃ i, i < 26 ∧ c = 97 + i := by
  rw [letters_list, List.mem_map]
  constructor
  · rintro ⟨i, hi, rfl⟩
    exact ⟨i, List.mem_range.1 hi, rfl⟩
  · rintro ⟨i, hi, rfl⟩
    exact ⟨i, List.mem_range.2 hi, rfl⟩
/-- small letters alone -/
def Low (s : Str) : Prop := ∀ c ∈ s.cps.toList, c ∈ lettersS.cps.toList
theorem isName_low {s : Str} (h : isName s = true) : Low s := by
  unfold isName at h
  simp only [Bool.and_eq_true, List.all_eq_true, decide_eq_true_eq] at h
  exact h.2
theorem low_ok {s : Str} (h : Low s) : ∀ c ∈ s.cps.toList, c < 0x110000 := fun c hc => by
  obtain ⟨i, hi, rfl⟩ := letters_mem.1 (h c hc)
  omega
theorem app_list (s t : Str) : (s ++ t).cps.toList = s.cps.toList ++ t.cps.toList := by
  show (s.cps ++ t.cps).toList = _
  simp
theorem app_len (s t : Str) : (s ++ t).length = s.length + t.length := by
  rw [str_len, str_len, str_len, app_list, List.length_append]
theorem cut_list (z : Str) (lo hi : Option Int) : (cutS z lo hi).cps.toList = (z.cps.toList.drop (HT.sIx z.length 0 lo)).take (HT.sIx z.length z.length hi - HT.sIx z.length 0 lo) := by
  unfold cutS
  rfl
theorem cut_from {z : Str} {a : Nat} (h : a ≤ z.length) : (cutS z (some (a : Int)) none).cps.toList = z.cps.toList.drop a := by
  rw [cut_list, HT.sIx_none, HT.sIx_nat, Nat.min_eq_left h, str_len, ← List.length_drop, List.take_length]
theorem str_ext {s t : Str} (h : s.cps.toList = t.cps.toList) : s = t := by
  obtain ⟨a⟩ := s
  obtain ⟨b⟩ := t
  congr 1
  exact Array.toList_inj.1 h
section
variable {K : PySem.W.Frag} {H : Hp} {Q : VK} {σ : L2.St}
theorem g_addS {a b : Str} (hl : a.length + b.length ≤ 1000000) (h : Q (.str (a ++ b)) H) : uAdd K (.str a) (.str b) H Q := ⟨Nat.le_trans hl (by decide), h⟩
theorem g_bmS {T : String} {r : L2.St → V → List V → Hp → VK → Prop} {to : TE} {t : TA} (h : to σ H fun x H1 => tyV K T x H1 ∧ t σ H1 fun xs H2 => r σ x xs H2 Q) : tBMS K T r to t σ H Q := h
theorem g_tyStr {z : Str} {P : Prop} (h : P) : tyV K "str" (.str z) H ∧ P := ⟨rfl, h⟩
end
end Bk
set_option Elab.async false
set_option linter.all false
set_option maxRecDepth 100000
set_option maxHeartbeats 4000000
/-! Bk14: the laws' makers. -/
namespace Bk
open PySem PySem.Spec PyProof.Rows L2
def DueAt (w : Wd) (H : Hp) (e : Nat × Mk) (v : V) : Prop := ∃ p t, v = .ref p ∧ H p = some (.tup [.str e.2.1, .int (e.1 : Nat), .ref t]) ∧ H t = some (.tup (e.2.2.map fun s => .int (kno w s)))
theorem DueAt.tk {w : Wd} {H H' : Hp} {e : Nat × Mk} {v : V} (t : Tk H H') (h : DueAt w H e v) : DueAt w H' e v := by
  obtain ⟨p, q, a, b, c⟩ := h
  exact ⟨p, q, a, t _ _ b, t _ _ c⟩
/-- a list of such -/
def Dues (w : Wd) (H : Hp) (L : List (Nat × Mk)) (vs : List V) : Prop := vs.length = L.length ∧ ∀ (j : Nat) (v : V), vs[j]? = some v → ∃ e, L[j]? = some e ∧ DueAt w H e v
theorem Dues.tk {w : Wd} {H H' : Hp} {L : List (Nat × Mk)} {vs : List V} (t : Tk H H') (h : Dues w H L vs) : Dues w H' L vs := ⟨h.1, fun j v hj => by
  obtain ⟨e, a, b⟩ := h.2 j v hj
  exact ⟨e, a, b.tk t⟩⟩
/-- the first place of a kind's name -/
theorem kno_at : ∀ (w : Wd) (n i : Nat) (k : Str × List Mk) (kvs : List (L2.Key × V)), (w.map Prod.fst).Nodup → w[i]? = some k → valV (mergeK kvs (kvsFrom n w)) (.inr k.1) = some (.int ((n + i : Nat) : Int))
  | [], n, i, k, kvs, _, h => by simp at h
  | a :: w, n, 0, k, kvs, hn, h => by
    cases h
    show valV (mergeK (putK kvs (.inr a.1) (.int (n : Nat))) (kvsFrom (n + 1) w)) (.inr a.1) = _
    have h1 := (List.nodup_cons.1 hn).1
    have z : ∀ (w : Wd) (n : Nat) (kvs : List (L2.Key × V)) (s : Str), s ∉ w.map Prod.fst → valV (mergeK kvs (kvsFrom n w)) (.inr s) = valV kvs (.inr s) := by
      intro w
      induction w with
      | nil => intro n kvs s _; rfl
      | cons b w ih =>
        intro n kvs s hs
        show valV (mergeK (putK kvs (.inr b.1) (.int (n : Nat))) (kvsFrom (n + 1) w)) (.inr s) = _
        rw [List.map_cons, List.mem_cons, not_or] at hs
        rw [ih (n + 1) _ s hs.2, valV_put, if_neg fun e => hs.1 (Sum.inr.inj e)]
    rw [z w (n + 1) _ a.1 h1, valV_put, if_pos rfl]
    rfl
  | a :: w, n, i + 1, k, kvs, hn, h => by
    show valV (mergeK (putK kvs (.inr a.1) (.int (n : Nat))) (kvsFrom (n + 1) w)) (.inr k.1) = _
    rw [kno_at w (n + 1) i k _ (List.nodup_cons.1 hn).2 h]
    congr 2
    omega
theorem kno_idx {w : Wd} {i : Nat} {k : Str × List Mk} (hn : (w.map Prod.fst).Nodup) (h : w[i]? = some k) : kno w k.1 = (i : Nat) := by
  unfold kno
  rw [kno_at w 0 i k [] hn h]
  simp
theorem intsReps {H : Hp} : ∀ is : List Int, Reps H (is.map D.int) (is.map V.int)
  | [] => by simp only [List.map, Reps]
  | i :: is => by
    simp only [List.map, Reps]
    exact ⟨_, _, rfl, Rep.i i, intsReps is⟩
theorem ints_hard : ∀ is : List Int, D.hards (is.map D.int) = true
  | [] => rfl
  | i :: is => by
    show (D.hard (.int i) && D.hards (is.map D.int)) = true
    rw [ints_hard is]
    rfl
theorem Rep.ints {H : Hp} {t : Addr} {is : List Int} (h : H t = some (.tup (is.map V.int))) : Rep H (.tup (is.map D.int)) (.ref t) := by
  simp only [Rep]
  exact ⟨t, _, rfl, h, intsReps is⟩
section
variable {K : PySem.W.Frag} {H : Hp} {Q : VK} {σ : L2.St}
theorem g_tup3 {p : Addr} {x y z : V} {i j k : Nat} {P : L2.St → Hp → Prop} (hp : H p = some (.tup [x, y, z])) (h : P (((σ.set i (some x)).set j (some y)).set k (some z)) H) : gTup K 3 (gCons (gName i) (gCons (gName j) (gCons (gName k) gNil))) (.ref p) σ H P :=
  ⟨p, _, rfl, sqT hp, rfl, x, _, rfl, y, _, rfl, z, _, rfl, rfl, h⟩
end
theorem WoodOk.low {w : Wd} (h : WoodOk w) : ∀ s ∈ mkNames w, isName s = true := fun s hs => by
  unfold mkNames at hs
  obtain ⟨l, hl, hs⟩ := List.mem_flatten.1 hs
  obtain ⟨k, hk, rfl⟩ := List.mem_map.1 hl
  obtain ⟨m, hm, rfl⟩ := List.mem_map.1 hs
  exact (h.mkr k hk m hm).1
theorem WoodOk.row {w : Wd} (h : WoodOk w) : ∀ k ∈ w, k.2.length ≤ 1000 := fun k hk => by
  obtain ⟨i, hi⟩ := List.mem_iff_getElem?.1 hk
  have := h.many
  rw [tab_split w 0 i k hi, List.length_append, List.length_append, List.length_map] at this
  omega
theorem strs_hard : ∀ ss : List Str, D.hards (ss.map D.str) = true
  | [] => rfl
  | s :: ss => by
    show (D.hard (.str s) && D.hards (ss.map D.str)) = true
    rw [strs_hard ss]
    rfl
theorem mks_hard : ∀ ms : List Mk, D.hards (ms.map mkD) = true
  | [] => rfl
  | m :: ms => by
    show (D.hard (mkD m) && D.hards (ms.map mkD)) = true
    rw [mks_hard ms, Bool.and_true]
    show (D.hard (.str m.1) && (D.hards (m.2.map D.str) && true)) = true
    rw [strs_hard]
    rfl
theorem kinds_hard : ∀ w : Wd, D.hards (w.map kindD) = true
  | [] => rfl
  | k :: w => by
    show (D.hard (kindD k) && D.hards (w.map kindD)) = true
    rw [kinds_hard w, Bool.and_true]
    show (D.hard (.str k.1) && (D.hards (k.2.map mkD) && true)) = true
    rw [mks_hard]
    rfl
theorem wood_hard (w : Wd) : (woodD w).hard = true := by
  show D.hards (w.map kindD) = true
  exact kinds_hard w
/-! ### the rows of a wood that is drawn -/
structure Rows (H : Hp) (ras : List Addr) (R : List (List Mk)) : Prop where
  len : ras.length = R.length
  nd : ras.Nodup
  at_ : ∀ (q : Nat) (a : Addr) (r : List Mk), ras[q]? = some a → R[q]? = some r → ∃ us, H a = some (.lst us) ∧ Reps H (r.map mkD) us
theorem Rows.get {H : Hp} {ras : List Addr} {R : List (List Mk)} (h : Rows H ras R) {q : Nat} (hq : q < R.length) : ∃ a r us, ras[q]? = some a ∧ R[q]? = some r ∧ H a = some (.lst us) ∧ Reps H (r.map mkD) us := by
  have hq2 : q < ras.length := by rw [h.len]; exact hq
  obtain ⟨us, a, b⟩ := h.at_ q _ _ (List.getElem?_eq_getElem hq2) (List.getElem?_eq_getElem hq)
  exact ⟨_, _, us, List.getElem?_eq_getElem hq2, List.getElem?_eq_getElem hq, a, b⟩
/-- what keeps the lists at ras and all tuples -/
theorem Rows.keep {H H' : Hp} {ras : List Addr} {R : List (List Mk)} (h : Rows H ras R) (t : Tk H H') (k : ∀ a ∈ ras, ∀ us, H a = some (.lst us) → H' a = some (.lst us)) : Rows H' ras R := ⟨h.len, h.nd, fun q a r ha hr => by
  obtain ⟨us, hu, rs⟩ := h.at_ q a r ha hr
  exact ⟨us, k a (List.mem_of_getElem? ha) us hu, rs.tk t (mks_hard r)⟩⟩
end Bk
set_option Elab.async false
set_option linter.all false
set_option maxRecDepth 100000
set_option maxHeartbeats 4000000
/-! Bk15: own errors with fields over ValueError. -/
namespace Bk
open PySem PySem.Spec PyProof.Rows L2
def spExc1 (K : PySem.W.Frag) (bm : List Value) (f : Str) : Sp := fun vs H Q _ => ∃ (a C : Addr) (y : V), vs = [.ref a, y] ∧ OexB K C "ValueError.__new__" bm ∧ OexC K C ∧ PySem.W.findIn K (.ref C) f = some none ∧ H a = some (exo a C none) ∧
  ∀ dx, H dx = none → dx ≠ a → Q .non (upd (upd H dx (exd dx [(f, y)])) a (exo a C (some dx)))
section
variable {K : PySem.W.Frag} {bm : List Value} {C : Addr} {H1 : Hp} {Q : XK} {f g : Str} {y z : V}
theorem end_exc1 (x : OexB K C "ValueError.__new__" bm) (o : OexC K C) (n : PySem.W.findIn K (.ref C) f = some none) (h : ∀ d H', Ex H1 H' → H' d = some (.xd [(f, y)]) → Q (.ref C) (some d) H') :
    [y].length ≤ 1000 ∧ ∀ a, H1 a = none → spExc1 K bm f (.ref a :: ([y] ++ [])) (upd H1 a (exo a C none)) (fun v H2 => v = .non ∧ ∃ (d : Addr) (fs : List (Str × V)), H2 a = some (exo a C (some d)) ∧ H2 d = some (exd d fs) ∧ H1 d = none ∧ Q (.ref C) (some d) (upd (del H2 a) d (.xd fs))) (fun _ _ _ => False) := by
  refine ⟨(show 1 ≤ 1000 by decide), fun a ha => ⟨a, C, y, rfl, x, o, n, upd_same, fun dx hdx ne => ⟨rfl, dx, [(f, y)], upd_same, ?_, ?_, h dx _ (fun b u hu => ?_) upd_same⟩⟩⟩
  · rw [upd_ne ne, upd_same]
  · rwa [upd_ne ne] at hdx
  · have nb : b ≠ a := ne_of_none hu ha
    have nd : b ≠ dx := fun e => by rw [e] at hu; rw [upd_ne ne, hu] at hdx; cases hdx
    rw [upd_ne nd, del_ne nb, upd_ne nb, upd_ne nd, upd_ne nb]
    exact hu
end
end Bk
set_option Elab.async false
set_option linter.all false
set_option maxRecDepth 100000
set_option maxHeartbeats 4000000
/-! Bk16: what a wood is refused for. -/
namespace Bk
open PySem PySem.Spec PyProof.Rows L2
end Bk
set_option Elab.async false
set_option linter.all false
set_option maxRecDepth 100000
set_option maxHeartbeats 4000000
/-! Bk17: caught errors with fields, isinstance by a tuple of classes; texts and tuples times a number. -/
namespace Bk
open PySem PySem.Spec PyProof.Rows L2
/-- isinstance of a caught error, with fields or none, by a class or a tuple of own classes -/
def DOk (H : Hp) (d : Option Addr) : Prop := d = none ∨ ∃ dd fs, d = some dd ∧ H dd = some (.xd fs)
def uIsX (K : PySem.W.Frag) (a : Addr) (cls : Value) (d : Option Addr) : List V → Hp → VK → Prop := fun xs H Q => ∃ D, cls = .ref D ∧ ExcC K D ∧ DOk H d ∧ ∃ c b, xs = [.ref a, c] ∧ Q (.bl b) H ∧
  ((∃ cv, (∀ u, RelV c u → u = cv) ∧ PySem.W.kitOne K (.ref D) cv = some b) ∨ (∃ (tp : Addr) (Cs : List Addr), c = .ref tp ∧ H tp = some (.tup (Cs.map V.ref)) ∧ PySem.W.kitAny K (.ref D) (Cs.map Value.ref) = some b))
theorem vals_refs : ∀ {Cs : List Addr} {us : List Value}, Vals (Cs.map V.ref) us → us = Cs.map Value.ref
  | [], us, h => by cases h; rfl
  | C :: Cs, us, h => by
    cases h with
    | cons r rr =>
      cases (show _ = Value.ref C from r)
      rw [vals_refs rr]
      rfl
theorem uk_isX {X : Cx} {a : Addr} {oe : Obj} {pn : List (Addr × Obj)} {cls : Value} {d : Option Addr} (hz : Zc cls d oe) (hf : ∃ vs, oe.data = .fields vs) : CallR (X.suite a ((a, oe) :: pn)) (.builtin "isinstance") (uIsX X.K a cls d) := by
  intro pins s σ H xs us Q I r h
  obtain ⟨D, rfl, C, hd, c, b, rfl, q, h⟩ := h
  obtain ⟨u1, u2, rfl, rx, rt⟩ := vals2 r
  cases (show u1 = Value.ref a from rx)
  obtain ⟨hget, _⟩ := I.pin (a, oe) (List.mem_append.mpr (.inl List.mem_cons_self))
  obtain ⟨vs, hv⟩ := hf
  have J : ∃ od, PySem.W.InstAt s.heap a oe D od := by
    rcases hd with rfl | ⟨dd, fs, rfl, ea⟩
    · refine ⟨none, ?_⟩
      obtain ⟨oc, od, oda, osl⟩ := oe
      obtain ⟨h1, h2⟩ := hz
      dsimp only at h1 h2 hv
      subst h1 h2 hv
      exact ⟨hget, rfl, rfl, trivial⟩
    · have hx : ObjOk X.prog X.w H s.heap dd (.xd fs) := I.hok dd _ ea
      obtain ⟨mA, hns, hr⟩ := hx
      obtain ⟨od, ho, hl⟩ := lookIn_ns hns
      exact ⟨some od, hget, hz.1, by unfold PySem.W.notCls; rw [hv] <;> rfl, by rw [hz.2]; exact ho⟩
  obtain ⟨od, J⟩ := J
  have cl : (PySem.W.clsIn X.K D).isSome = true := by
    obtain ⟨cdD, hcD, _⟩ := PySem.W.any_some C.hd
    rw [hcD]; rfl
  have Z := PySem.W.kitx_exc (x := a) (ox := oe) (od := od) cl C.hg C.hk C.hs C.ha C.hn C.ht C.hm
  rcases h with ⟨cv, hcv, e⟩ | ⟨tp, Cs, rfl, hT, e⟩
  · have ec := hcv _ rt
    subst ec
    exact PySem.W.kia_one Z I.kIn J e (fun z => nomatch z) fun tk => ⟨.bl b, H, I.kept (t' := tk) fun _ _ z => z, rfl, q⟩
  · cases (show u2 = Value.ref tp from rt)
    obtain ⟨_, its, rv, o, h1, h2, n, h3⟩ := (show ObjOk X.prog X.w H s.heap tp (.tup (Cs.map V.ref)) from I.hok tp _ hT)
    have e3 := vals_refs rv
    subst e3
    obtain ⟨oc, od2, dt, sl⟩ := o
    simp only at h2 h3
    subst h2 h3
    exact PySem.W.kia_tup Z I.kIn J h1 e (fun z => nomatch z) fun tk => ⟨.bl b, H, I.kept (t' := tk) fun _ _ z => z, rfl, q⟩
theorem uk_isK {X : Cx} (K : PySem.W.Frag) {a : Addr} {oe : Obj} {pn : List (Addr × Obj)} {cls : Value} {d : Option Addr} (hz : Zc cls d oe) (hf : ∃ vs, oe.data = .fields vs) (hK : X.K = K := by rfl) : CallR (X.suite a ((a, oe) :: pn)) (.builtin "isinstance") (uIsX K a cls d) := by
  subst hK
  exact uk_isX hz hf
theorem kitAny_no {K : PySem.W.Frag} {t : Value} : ∀ {Cs : List Addr}, (∀ C ∈ Cs, PySem.W.kitOne K t (.ref C) = some false) → PySem.W.kitAny K t (Cs.map Value.ref) = some false
  | [], _ => rfl
  | C :: Cs, h => kitAny_cons (h C List.mem_cons_self) (fun _ => kitAny_no fun D hD => h D (List.mem_cons_of_mem _ hD)) (fun z => nomatch z)
section
variable {K : PySem.W.Frag} {H : Hp} {Q : VK} {σ : L2.St} {D a : Addr} {d : Option Addr} {b : Bool}
theorem g_isXT {T : String} (C : ExcC K D) (hd : DOk H d) (h : PySem.W.kitOne K (.ref D) (.type T) = some b) (q : Q (.bl b) H) : uIsX K a (.ref D) d [.ref a, .ty T] H Q := ⟨D, rfl, C, hd, _, b, rfl, q, .inl ⟨_, fun u z => z, h⟩⟩
theorem g_isXC {E : Addr} (C : ExcC K D) (hd : DOk H d) (h : PySem.W.kitOne K (.ref D) (.ref E) = some b) (q : Q (.bl b) H) : uIsX K a (.ref D) d [.ref a, .ref E] H Q := ⟨D, rfl, C, hd, _, b, rfl, q, .inl ⟨_, fun u z => z, h⟩⟩
theorem g_isXN {tp : Addr} {Cs : List Addr} (C : ExcC K D) (hd : DOk H d) (hT : H tp = some (.tup (Cs.map V.ref))) (h : ∀ E ∈ Cs, PySem.W.kitOne K (.ref D) (.ref E) = some false) (q : Q (.bl false) H) : uIsX K a (.ref D) d [.ref a, .ref tp] H Q := ⟨D, rfl, C, hd, _, false, rfl, q, .inr ⟨tp, Cs, rfl, hT, kitAny_no h⟩⟩
theorem xfC (C : ExcC K D) : XfC K D := ⟨C.hg, C.hk, C.hs, C.hd⟩
end
/-- a text, n times -/
def repS (x : Str) (n : Int) : Str := ⟨(List.replicate n.toNat x.cps.toList).flatten.toArray⟩
theorem foldl_cps (c : Array Nat) : ∀ (m : Nat) (acc : Array Nat), (List.replicate m c).foldl (· ++ ·) acc = acc ++ (List.replicate m c.toList).flatten.toArray
  | 0, acc => by simp
  | m + 1, acc => by
    rw [List.replicate_succ, List.foldl_cons, foldl_cps c m, List.replicate_succ, List.flatten_cons]
    apply Array.ext'
    simp
theorem repS_len (x : Str) (n : Int) : (repS x n).length = n.toNat * x.length := by
  show (List.replicate n.toNat x.cps.toList).flatten.toArray.size = n.toNat * x.cps.size
  simp
def rRepS : R2 := fun x y H Q => ∃ (a : Str) (n : Int), x = .str a ∧ y = .int n ∧ 0 ≤ n ∧ n ≤ 10000 ∧ a.length ≤ 100 ∧ Q (.str (repS a n)) H
section
variable {X : Cx}
theorem op_repS : OpR X (binaryOp .Mult) rRepS := by
  intro pins s σ H x y v u Q I rx ry h
  obtain ⟨a, n, rfl, rfl, h0, h1, ha, q⟩ := h
  obtain ⟨t, rfl⟩ := rx
  obtain ⟨t', rfl⟩ := ry
  have hl : a.length * n.toNat ≤ 100 * 10000 := Nat.mul_le_mul ha (by omega)
  refine PySem.P.mul_str (by rw [decide_eq_false (by omega), decide_eq_false (by omega)]; rfl) (fun h2 _ => ?_) (fun h2 _ => ?_) ?_
  · have e : (10 : Int) ^ 6 ≤ (2 ^ 63 - 1) / n := by
      refine Int.le_ediv_of_mul_le (by omega) ?_
      have : (10 : Int) ^ 6 * n ≤ 10 ^ 6 * 10000 := Int.mul_le_mul_of_nonneg_left h1 (by decide)
      omega
    omega
  · show decide (_ > _) = false
    exact decide_eq_false (Nat.not_lt.mpr (Nat.le_trans hl (by decide)))
  · by_cases c : n < 1
    · rw [if_pos c]
      have en : n = 0 := by omega
      subst en
      refine ⟨by decide, ?_⟩
      exact ⟨.str (repS a 0), H, I.tok _, ⟨_, rfl⟩, q⟩
    · rw [if_neg c]
      by_cases c2 : (n == 1 || a.length == 0) = true
      · rw [if_pos c2]
        have e : repS a n = a := by
          rcases Bool.or_eq_true_iff.mp c2 with z | z
          · have en : n = 1 := by simpa using z
            subst en
            show Str.mk _ = a
            simp
          · have ez0 : a.length = 0 := by simpa using z
            have ez : a.cps.size = 0 := ez0
            obtain ⟨⟨l⟩⟩ := a
            have : l = [] := List.eq_nil_of_length_eq_zero ez
            subst this
            show Str.mk _ = _
            simp
        rw [e] at q
        exact ⟨.str a, H, I, ⟨_, rfl⟩, q⟩
      · rw [if_neg c2]
        have e : (⟨(List.replicate n.toNat a.cps).foldl (fun x y => x ++ y) #[]⟩ : Str) = repS a n := by
          unfold repS
          rw [foldl_cps a.cps n.toNat #[]]
          simp
        rw [e]
        refine ⟨?_, ?_⟩
        · rw [repS_len]
          exact Nat.le_trans (by rw [Nat.mul_comm]; exact hl) (by decide)
        · exact ⟨.str (repS a n), H, I.tok _, ⟨_, rfl⟩, q⟩
end
section
variable {K : PySem.W.Frag} {H : Hp} {Q : VK} {σ : L2.St}
theorem g_repS {a : Str} {n : Int} (h0 : 0 ≤ n) (h1 : n ≤ 10000) (ha : a.length ≤ 100) (q : Q (.str (repS a n)) H) : rRepS (.str a) (.int n) H Q := ⟨a, n, rfl, rfl, h0, h1, ha, q⟩
end
end Bk
set_option Elab.async false
set_option linter.all false
set_option maxRecDepth 100000
set_option maxHeartbeats 4000000
/-! Bk18: woods of any kind, let by or refused. -/
namespace Bk
open PySem PySem.Spec PyProof.Rows L2
theorem TextOk.le {s : Str} (h : TextOk s) : s.length ≤ 100000 := Nat.le_trans h.1 (by decide)
theorem isName_text {s : Str} (h : isName s = true) : TextOk s := by
  have h2 := low_ok (isName_low h)
  unfold isName at h
  simp only [Bool.and_eq_true, decide_eq_true_eq] at h
  exact ⟨by omega, h2⟩
def KeysX (kvs : List (L2.Key × V)) (L : List Str) : Prop := kvs.length = L.length ∧ (∀ s, (valV kvs (.inr s)).isSome = true ↔ s ∈ L)
theorem KeysX.none {kvs : List (L2.Key × V)} {L : List Str} {s : Str} (h : KeysX kvs L) (hn : s ∉ L) : valV kvs (.inr s) = none := by
  cases e : valV kvs (.inr s) with
  | none => rfl
  | some v => exact absurd ((h.2 s).1 (by rw [e]; rfl)) hn
theorem acc_map {α : Type} {acc : List V} {xs : List α} {f : α → V} (hl : acc.length = xs.length) (h : ∀ (j : Nat) (v : V), acc[j]? = some v → ∃ x, xs[j]? = some x ∧ v = f x) : acc = xs.map f := by
  refine List.ext_getElem? fun j => ?_
  rw [List.getElem?_map]
  cases c : acc[j]? with
  | none =>
    have := List.getElem?_eq_none_iff.1 c
    rw [List.getElem?_eq_none_iff.2 (by omega : xs.length ≤ j)]
    rfl
  | some v =>
    obtain ⟨x, hx, rfl⟩ := h j v c
    rw [hx]
    rfl
theorem take_at {α : Type} {l : List α} {i : Nat} {x : α} (h : l[i]? = some x) : l.take (i + 1) = l.take i ++ [x] := by
  rw [List.take_add_one, h]
  rfl
end Bk
set_option Elab.async false
set_option linter.all false
set_option maxRecDepth 100000
set_option maxHeartbeats 4000000
/-! Bk19: a wood laid out as lists, by the sorts of its objects. -/
namespace Bk
open PySem PySem.Spec PyProof.Rows L2
abbrev Sorts := Addr → Nat
/-- an object of a sort: 1 a kind's row, 2 a list of makers, 3 a maker -/
def Sorted (n : Nat) (c : Sorts) (H : Hp) (k : Nat) (o : HO) : Prop :=
  (k = 1 → ∃ (s : Str) (b : Addr), o = .lst [.str s, .ref b] ∧ TextOk s ∧ c b = 2) ∧
  (k = 2 → ∃ xs : List V, o = .lst xs ∧ xs.length ≤ 12 + 5 * n ∧ ∀ x ∈ xs, ∃ b, x = .ref b ∧ c b = 3) ∧
  (k = 3 → ∃ (s : Str) (t : Addr) (ps : List Str), o = .lst [.str s, .ref t] ∧ TextOk s ∧ H t = some (.tup (ps.map V.str)) ∧ ps.length ≤ 2 + 7 * n ∧ ∀ p ∈ ps, TextOk p)
def TyH (n : Nat) (c : Sorts) (H : Hp) : Prop := ∀ a, c a ≠ 0 → c a ≤ 3 ∧ ∃ o, H a = some o ∧ Sorted n c H (c a) o
def setC (c : Sorts) (a : Addr) (k : Nat) : Sorts := fun b => if b = a then k else c b
theorem setC_same {c : Sorts} {a : Addr} {k : Nat} : setC c a k a = k := if_pos rfl
theorem setC_ne {c : Sorts} {a b : Addr} {k : Nat} (h : b ≠ a) : setC c a k b = c b := if_neg h
theorem Sorted.lst {n : Nat} {c : Sorts} {H : Hp} {k : Nat} {o : HO} (h : Sorted n c H k o) (h0 : k ≠ 0) (h3 : k ≤ 3) : ∃ xs, o = .lst xs := by
  have : k = 1 ∨ k = 2 ∨ k = 3 := by omega
  rcases this with rfl | rfl | rfl
  · obtain ⟨_, _, e, _⟩ := h.1 rfl
    exact ⟨_, e⟩
  · obtain ⟨_, e, _⟩ := h.2.1 rfl
    exact ⟨_, e⟩
  · obtain ⟨_, _, _, e, _⟩ := h.2.2 rfl
    exact ⟨_, e⟩
theorem TyH.lst {n : Nat} {c : Sorts} {H : Hp} (h : TyH n c H) {a : Addr} (ha : c a ≠ 0) : ∃ xs, H a = some (.lst xs) := by
  obtain ⟨l, o, e, s⟩ := h a ha
  obtain ⟨xs, rfl⟩ := s.lst ha l
  exact ⟨xs, e⟩
theorem TyH.c0 {n : Nat} {c : Sorts} {H : Hp} (h : TyH n c H) {a : Addr} (ha : H a = none) : c a = 0 := by
  refine Classical.byContradiction fun z => ?_
  obtain ⟨xs, e⟩ := h.lst z
  rw [ha] at e
  cases e
theorem Sorted.mono {n n' : Nat} {c c' : Sorts} {H H' : Hp} {k : Nat} {o : HO} (hn : n ≤ n') (hc : ∀ b, c b ≠ 0 → c' b = c b) (ht : Tk H H') (h : Sorted n c H k o) : Sorted n' c' H' k o := by
  refine ⟨fun e => ?_, fun e => ?_, fun e => ?_⟩
  · obtain ⟨s, b, e1, e2, e3⟩ := h.1 e
    exact ⟨s, b, e1, e2, by rw [hc b (by omega)]; exact e3⟩
  · obtain ⟨xs, e1, e2, e3⟩ := h.2.1 e
    refine ⟨xs, e1, by omega, fun x hx => ?_⟩
    obtain ⟨b, e4, e5⟩ := e3 x hx
    exact ⟨b, e4, by rw [hc b (by omega)]; exact e5⟩
  · obtain ⟨s, t, ps, e1, e2, e3, e4, e5⟩ := h.2.2 e
    exact ⟨s, t, ps, e1, e2, ht _ _ e3, by omega, e5⟩
/-- what keeps the sorted objects and all tuples -/
theorem TyH.keep {n : Nat} {c : Sorts} {H H' : Hp} (h : TyH n c H) (ht : Tk H H') (hk : ∀ a, c a ≠ 0 → H' a = H a) : TyH n c H' := fun a ha => by
  obtain ⟨l, o, e, s⟩ := h a ha
  exact ⟨l, o, (hk a ha).trans e, s.mono (Nat.le_refl _) (fun _ _ => rfl) ht⟩
theorem TyH.ex {n : Nat} {c : Sorts} {H H' : Hp} (h : TyH n c H) (e : Ex H H') : TyH n c H' := h.keep e.tk fun a ha => by
  obtain ⟨xs, q⟩ := h.lst ha
  rw [q, e _ _ q]
theorem TyH.le {n m : Nat} {c : Sorts} {H : Hp} (h : TyH n c H) (hn : n ≤ m) : TyH m c H := fun a ha => by
  obtain ⟨l, o, e, s⟩ := h a ha
  exact ⟨l, o, e, s.mono hn (fun _ _ => rfl) (Tk.refl _)⟩
/-- a sorted object changed -/
theorem TyH.set {n : Nat} {c : Sorts} {H : Hp} {a : Addr} {o : HO} (h : TyH n c H) (ha : c a ≠ 0) (ho : Sorted n c H (c a) o) : TyH n c (upd H a o) := by
  obtain ⟨xs, q⟩ := h.lst ha
  have t : Tk H (upd H a o) := ((But.refl a H).upd).tkl q
  intro b hb
  by_cases e : b = a
  · subst e
    exact ⟨(h b hb).1, o, upd_same, ho.mono (Nat.le_refl _) (fun _ _ => rfl) t⟩
  · obtain ⟨l, o', e1, s⟩ := h b hb
    exact ⟨l, o', by rw [upd_ne e]; exact e1, s.mono (Nat.le_refl _) (fun _ _ => rfl) t⟩
/-- an object that had no sort gets one -/
theorem TyH.cls {n : Nat} {c : Sorts} {H : Hp} {a : Addr} {k : Nat} {o : HO} (h : TyH n c H) (ha : c a = 0) (hk : k ≤ 3) (q : H a = some o) (ho : Sorted n c H k o) : TyH n (setC c a k) H ∧ ∀ b, c b ≠ 0 → setC c a k b = c b := by
  have hc : ∀ b, c b ≠ 0 → setC c a k b = c b := fun b hb => setC_ne fun e => hb (e ▸ ha)
  refine ⟨fun b hb => ?_, hc⟩
  by_cases e : b = a
  · subst e
    rw [setC_same]
    exact ⟨hk, o, q, ho.mono (Nat.le_refl _) hc (Tk.refl _)⟩
  · rw [setC_ne e] at hb ⊢
    obtain ⟨l, o', e1, s⟩ := h b hb
    exact ⟨l, o', e1, s.mono (Nat.le_refl _) hc (Tk.refl _)⟩
theorem TyH.but {n : Nat} {c : Sorts} {H H' : Hp} {p : Addr} (h : TyH n c H) (b : But p H H') (hp : Box H p) (c0 : c p = 0) : TyH n c H' := h.keep (hp.tk b) fun a ha => by
  obtain ⟨xs, q⟩ := h.lst ha
  have ne : a ≠ p := fun e => ha (by rw [e]; exact c0)
  rw [q, b _ _ ne q]
/-- fresh: what is sorted is new to H0 -/
def FreshC (c : Sorts) (H0 : Hp) : Prop := ∀ a, c a ≠ 0 → H0 a = none
theorem FreshC.set {c : Sorts} {H0 : Hp} {a : Addr} {k : Nat} (h : FreshC c H0) (ha : H0 a = none) : FreshC (setC c a k) H0 := fun b hb => by
  by_cases e : b = a
  · rw [e]; exact ha
  · rw [setC_ne e] at hb
    exact h b hb
/-- the rows: a list of such -/
def RowsAt (m : Nat) (c : Sorts) (xs : List V) : Prop := xs.length ≤ m ∧ ∀ x ∈ xs, ∃ b, x = .ref b ∧ c b = 1
theorem RowsAt.mono {m : Nat} {c c' : Sorts} {xs : List V} (h : RowsAt m c xs) (hc : ∀ b, c b ≠ 0 → c' b = c b) : RowsAt m c' xs := ⟨h.1, fun x hx => by
  obtain ⟨b, e, q⟩ := h.2 x hx
  exact ⟨b, e, by rw [hc b (by omega)]; exact q⟩⟩
/-! ### a list compared with the empty one -/
/-! ### the state while a wood is spoilt -/
structure SpSt (p R : Addr) (n m : Nat) (c : Sorts) (H H1 : Hp) (rows : List V) : Prop where
  bx0 : Box H p
  bt : But p H H1
  bx : Box H1 p
  at_ : H1 R = some (.lst rows)
  ty : TyH n c H1
  fr : FreshC c H
  cR : c R = 0
  hR : H R = none
  rw : RowsAt m c rows
section
variable {p R : Addr} {n m : Nat} {c : Sorts} {H H1 H2 : Hp} {rows : List V}
theorem SpSt.np (s : SpSt p R n m c H H1 rows) {a : Addr} (ha : H a = none) : a ≠ p := fun e => by
  obtain ⟨_, _, _, q⟩ := s.bx0
  rw [← e, ha] at q
  cases q
theorem SpSt.cp (s : SpSt p R n m c H H1 rows) : c p = 0 := Classical.byContradiction fun z => s.np (s.fr p z) rfl
theorem SpSt.free (s : SpSt p R n m c H H1 rows) {a : Addr} (ha : H1 a = none) : H a = none := by
  cases e : H a with
  | none => rfl
  | some o =>
    by_cases z : a = p
    · subst z
      obtain ⟨_, _, _, q⟩ := s.bx
      rw [ha] at q
      cases q
    · rw [s.bt _ _ z e] at ha
      cases ha
theorem SpSt.but (s : SpSt p R n m c H H1 rows) (b : But p H1 H2) (hb : Box H2 p) : SpSt p R n m c H H2 rows :=
  ⟨s.bx0, s.bt.trans b, hb, b _ _ (s.np s.hR) s.at_, s.ty.but b s.bx s.cp, s.fr, s.cR, s.hR, s.rw⟩
theorem SpSt.ex (s : SpSt p R n m c H H1 rows) (e : Ex H1 H2) : SpSt p R n m c H H2 rows := s.but (e.but p) (s.bx.ex e)
/-- a sorted object changed -/
theorem SpSt.set (s : SpSt p R n m c H H1 rows) {a : Addr} {o : HO} (ha : c a ≠ 0) (ho : Sorted n c H1 (c a) o) : SpSt p R n m c H (upd H1 a o) rows :=
  ⟨s.bx0, s.bt.at_new (s.fr a ha), s.bx.at_upd (s.np (s.fr a ha)), by rw [upd_ne (fun e => ha (by rw [← e]; exact s.cR))]; exact s.at_, s.ty.set ha ho, s.fr, s.cR, s.hR, s.rw⟩
/-- a new sorted object -/
theorem SpSt.cls (s : SpSt p R n m c H H1 rows) {a : Addr} {k : Nat} {o : HO} (ha : c a = 0) (hN : H a = none) (ne : R ≠ a) (hk : k ≤ 3) (q : H1 a = some o) (ho : Sorted n c H1 k o) : SpSt p R n m (setC c a k) H H1 rows ∧ ∀ b, c b ≠ 0 → setC c a k b = c b := by
  obtain ⟨h1, h2⟩ := s.ty.cls ha hk q ho
  exact ⟨⟨s.bx0, s.bt, s.bx, s.at_, h1, s.fr.set hN, by rw [setC_ne ne]; exact s.cR, s.hR, s.rw.mono h2⟩, h2⟩
theorem SpSt.le (s : SpSt p R n m c H H1 rows) {n' m' : Nat} (h1 : n ≤ n') (h2 : m ≤ m') : SpSt p R n' m' c H H1 rows :=
  ⟨s.bx0, s.bt, s.bx, s.at_, s.ty.le h1, s.fr, s.cR, s.hR, Nat.le_trans s.rw.1 h2, s.rw.2⟩
end
end Bk
set_option Elab.async false
set_option linter.all false
set_option maxRecDepth 100000
set_option maxHeartbeats 4000000
/-! Bk20: zip(a, b, strict=True), a and b lists or tuples of one length. -/
namespace Bk
open PySem PySem.Spec PyProof.Rows L2
/-! ### the turns -/
def KI (h : Heap) (k : Bool) (it l : Addr) (i : Nat) : Prop := match k with
  | true => h.IsTupleIter it l i
  | false => h.IsListIter it l i
theorem KI.get {h : Heap} {k : Bool} {it l : Addr} {i : Nat} (x : KI h k it l i) : ∃ o, h.get? it = some o ∧ ∀ v, o.data ≠ .cell v := by
  cases k with
  | true =>
    obtain ⟨o, e1, _, d1⟩ := x
    exact ⟨o, e1, fun v q => by rw [d1] at q; cases q⟩
  | false =>
    obtain ⟨o, e1, _, d1⟩ := x
    exact ⟨o, e1, fun v q => by rw [d1] at q; cases q⟩
theorem KI.at {h h' : Heap} {k : Bool} {it l : Addr} {i : Nat} (x : KI h k it l i) (f : ∀ o, h.get? it = some o → h'.get? it = some o) : KI h' k it l i := by
  cases k with
  | true => obtain ⟨o, e1, e2⟩ := x; exact ⟨o, f o e1, e2⟩
  | false => obtain ⟨o, e1, e2⟩ := x; exact ⟨o, f o e1, e2⟩
theorem SIt.ki {h : Heap} {k : Bool} {it l : Addr} {i : Nat} {xs : Array Value} (x : SIt h k it l i xs) : KI h k it l i := by
  cases k with
  | true => exact x.1
  | false => exact x.1
end Bk
set_option Elab.async false
set_option linter.all false
set_option maxRecDepth 100000
set_option maxHeartbeats 4000000
/-! Bk21: trees by rows. -/
namespace Bk
open PySem PySem.Spec PyProof.Rows L2
abbrev Tr := List (Str × List Int)
def rowD (r : Str × List Int) : D := .tup [.str r.1, .tup (r.2.map D.int)]
def treeD (t : Tr) : D := .tup (t.map rowD)
def mkOf (w : Wd) (s : Str) : Option (Nat × Mk) := (tabFrom 0 w).find? fun e => decide (e.2.1 = s)
def dueOf (w : Wd) (e : Nat × Mk) : List Int := e.2.2.map fun s => kno w s
def standsAt (ks ns due : List Int) : Bool := decide (ns.length = due.length) && ((ns.all fun n => decide (0 ≤ n ∧ n < (ks.length : Nat))) && (ns.zip due).all fun p => decide (ks[p.1.toNat]? = some p.2))
def stands (w : Wd) (ks : List Int) (r : Str × List Int) : Bool := match mkOf w r.1 with
  | none => false
  | some e => standsAt ks r.2 (dueOf w e)
def kindAt (w : Wd) (s : Str) : Int := match mkOf w s with
  | none => 0
  | some e => (e.1 : Nat)
theorem nodup_sub2 {α : Type} [DecidableEq α] : ∀ (l m : List α), l.Nodup → (∀ x ∈ l, x ∈ m) → l.length ≤ m.length
  | [], _, _, _ => Nat.zero_le _
  | x :: l, m, h, hs => by
    have hn := List.nodup_cons.1 h
    have hx := hs x List.mem_cons_self
    have z := nodup_sub2 l (m.erase x) hn.2 fun y hy => (List.mem_erase_of_ne (fun e => hn.1 (by rw [← e]; exact hy))).2 (hs y (List.mem_cons_of_mem _ hy))
    rw [List.length_erase_of_mem hx] at z
    have : 0 < m.length := List.length_pos_of_mem hx
    rw [List.length_cons]
    omega
theorem TabOk.none {w : Wd} {H : Hp} {kvs : List (L2.Key × V)} {L : List (Nat × Mk)} {s : Str} (h : TabOk w H kvs L) (hn : (L.map fun e => e.2.1).Nodup) (hs : s ∉ L.map fun e => e.2.1) : valV kvs (.inr s) = none := by
  refine Classical.byContradiction fun z => ?_
  have key : ∀ t v, valV kvs (.inr t) = some v → (Sum.inr t : L2.Key) ∈ kvs.map Prod.fst := fun t v e => by
    unfold valV at e
    rw [Option.map_eq_some_iff] at e
    obtain ⟨kv, e1, _⟩ := e
    have e2 := List.find?_some e1
    have e3 := List.mem_of_find?_eq_some e1
    exact List.mem_map.2 ⟨kv, e3, of_decide_eq_true e2⟩
  have hz : ∃ v, valV kvs (.inr s) = some v := by
    cases e : valV kvs (.inr s) with
    | none => exact absurd e z
    | some v => exact ⟨v, rfl⟩
  obtain ⟨v, hv⟩ := hz
  have a := nodup_sub2 ((s :: L.map fun e => e.2.1).map Sum.inr) (kvs.map Prod.fst) (by
    have nd : (s :: L.map fun e => e.2.1).Nodup := List.nodup_cons.2 ⟨hs, hn⟩
    exact List.Pairwise.map (R := (· ≠ ·)) (S := (· ≠ ·)) Sum.inr (fun x y hxy e => hxy (Sum.inr.inj e)) nd) fun x hx => by
      obtain ⟨t, ht, rfl⟩ := List.mem_map.1 hx
      rcases List.mem_cons.1 ht with rfl | ht
      · exact key _ _ hv
      · obtain ⟨e, he, rfl⟩ := List.mem_map.1 ht
        obtain ⟨p, t, q, _⟩ := h.2 e he
        exact key _ _ q
  have b := h.1
  simp only [List.length_map, List.length_cons] at a
  omega
theorem mkOf_some {w : Wd} {s : Str} {e : Nat × Mk} (h : mkOf w s = some e) : e ∈ tabFrom 0 w ∧ e.2.1 = s := ⟨List.mem_of_find?_eq_some h, of_decide_eq_true (List.find?_some (p := fun e : Nat × Mk => decide (e.2.1 = s)) h)⟩
theorem mkOf_none {w : Wd} {s : Str} (h : mkOf w s = none) : s ∉ (tabFrom 0 w).map fun e => e.2.1 := fun z => by
  obtain ⟨e, he, rfl⟩ := List.mem_map.1 z
  exact List.find?_eq_none.1 h e he (decide_eq_true rfl)
/-! told and due -/
/-- what both tell: a tuple of a word, or of a word and a number -/
def ToldT (H : Hp) (o : Option Nat) (p : Addr) : Prop := match o with
  | none => H p = some (.tup [.str "let by"])
  | some n => H p = some (.tup [.str "refused", .int (n : Nat)])
theorem ToldT.ex {H H' : Hp} {o : Option Nat} {p : Addr} (e : Ex H H') (h : ToldT H o p) : ToldT H' o p := by
  cases o with
  | none => exact e _ _ h
  | some n => exact e _ _ h
end Bk
set_option Elab.async false
set_option linter.all false
set_option maxRecDepth 100000
set_option maxHeartbeats 4000000
/-! Bk22: trees drawn. -/
namespace Bk
open PySem PySem.Spec PyProof.Rows L2
def goTr (w : Wd) : List Int → Tr → Bool
  | _, [] => true
  | ks, r :: t => stands w ks r && goTr w (ks ++ [kindAt w r.1]) t
def kindsT (w : Wd) (t : Tr) : List Int := t.map fun r => kindAt w r.1
theorem mkOf_mem {w : Wd} {e : Nat × Mk} (hn : ((tabFrom 0 w).map fun e => e.2.1).Nodup) (he : e ∈ tabFrom 0 w) : mkOf w e.2.1 = some e := by
  cases c : mkOf w e.2.1 with
  | none => exact absurd (List.mem_map.2 ⟨e, he, rfl⟩) (mkOf_none c)
  | some f =>
    obtain ⟨h1, h2⟩ := mkOf_some c
    obtain ⟨i, hi⟩ := List.mem_iff_getElem?.1 he
    obtain ⟨j, hj⟩ := List.mem_iff_getElem?.1 h1
    obtain ⟨i1, i2⟩ := List.getElem?_eq_some_iff.1 hi
    obtain ⟨j1, j2⟩ := List.getElem?_eq_some_iff.1 hj
    have z := List.pairwise_iff_getElem.1 hn
    by_cases e1 : i = j
    · subst e1
      rw [hi] at hj
      cases hj
      rfl
    · exfalso
      rcases Nat.lt_or_gt_of_ne e1 with l | l
      · refine z i j (by rw [List.length_map]; exact i1) (by rw [List.length_map]; exact j1) l ?_
        rw [List.getElem_map, List.getElem_map, i2, j2, h2]
      · refine z j i (by rw [List.length_map]; exact j1) (by rw [List.length_map]; exact i1) l ?_
        rw [List.getElem_map, List.getElem_map, i2, j2, h2]
theorem row_hard (r : Str × List Int) : (rowD r).hard = true := by
  show D.hards [.str r.1, .tup (r.2.map D.int)] = true
  have := ints_hard r.2
  simp only [D.hards, D.hard, this, Bool.and_self]
theorem rows_hard : ∀ t : Tr, D.hards (t.map rowD) = true
  | [] => rfl
  | r :: t => by
    show (D.hard (rowD r) && D.hards (t.map rowD)) = true
    rw [row_hard, rows_hard t]
    rfl
theorem tree_hard (t : Tr) : (treeD t).hard = true := by
  show D.hards (t.map rowD) = true
  exact rows_hard t
structure TreeSt (p R Kd Sz : Addr) (w : Wd) (H H1 : Hp) (t : Tr) (rvs : List V) (szs : List Int) : Prop where
  bx0 : Box H p
  bt : But p H H1
  bx : Box H1 p
  hR : H R = none
  hK : H Kd = none
  hS : H Sz = none
  RK : R ≠ Kd
  RS : R ≠ Sz
  KS : Kd ≠ Sz
  atR : H1 R = some (.lst rvs)
  atK : H1 Kd = some (.lst ((kindsT w t).map V.int))
  atS : H1 Sz = some (.lst (szs.map V.int))
  reps : Reps H1 (t.map rowD) rvs
  len : szs.length = t.length
  go : goTr w [] t = true
  row : ∀ r ∈ t, TextOk r.1 ∧ r.2.length ≤ 2
section
variable {p R Kd Sz : Addr} {w : Wd} {H H1 H2 : Hp} {t : Tr} {rvs : List V} {szs : List Int}
theorem TreeSt.np (s : TreeSt p R Kd Sz w H H1 t rvs szs) {a : Addr} (ha : H a = none) : a ≠ p := fun e => by
  obtain ⟨_, _, _, q⟩ := s.bx0
  rw [← e, ha] at q
  cases q
theorem TreeSt.free (s : TreeSt p R Kd Sz w H H1 t rvs szs) {a : Addr} (ha : H1 a = none) : H a = none := by
  cases e : H a with
  | none => rfl
  | some o =>
    by_cases z : a = p
    · subst z
      obtain ⟨_, _, _, q⟩ := s.bx
      rw [ha] at q
      cases q
    · rw [s.bt _ _ z e] at ha
      cases ha
theorem TreeSt.but (s : TreeSt p R Kd Sz w H H1 t rvs szs) (b : But p H1 H2) (hb : Box H2 p) : TreeSt p R Kd Sz w H H2 t rvs szs :=
  { s with bt := s.bt.trans b, bx := hb, atR := b _ _ (s.np s.hR) s.atR, atK := b _ _ (s.np s.hK) s.atK, atS := b _ _ (s.np s.hS) s.atS, reps := s.reps.tk (s.bx.tk b) (rows_hard t) }
theorem TreeSt.ex (s : TreeSt p R Kd Sz w H H1 t rvs szs) (e : Ex H1 H2) : TreeSt p R Kd Sz w H H2 t rvs szs := s.but (e.but p) (s.bx.ex e)
end
/-- a maker whose parts' kinds are there -/
def FitAt (w : Wd) (H : Hp) (ks : List Int) (x : V) : Prop := ∃ e, e ∈ tabFrom 0 w ∧ DueAt w H e x ∧ ∀ d ∈ dueOf w e, d ∈ ks
theorem FitAt.tk {w : Wd} {H H' : Hp} {ks : List Int} {x : V} (t : Tk H H') (h : FitAt w H ks x) : FitAt w H' ks x := by
  obtain ⟨e, a, b, c⟩ := h
  exact ⟨e, a, b.tk t, c⟩
/-! ### a tree spoilt -/
structure RwSt (p R : Addr) (n m : Nat) (c : Addr → Prop) (H H1 : Hp) (rows : List V) : Prop where
  bx0 : Box H p
  bt : But p H H1
  bx : Box H1 p
  at_ : H1 R = some (.lst rows)
  hR : H R = none
  cR : ¬ c R
  fr : ∀ a, c a → H a = none
  ty : ∀ a, c a → ∃ (s : Str) (t : Addr) (ns : List Int), H1 a = some (.lst [.str s, .ref t]) ∧ TextOk s ∧ H1 t = some (.tup (ns.map V.int)) ∧ ns.length ≤ n
  rw : rows.length ≤ m ∧ ∀ x ∈ rows, ∃ b, x = .ref b ∧ c b
section
variable {p R : Addr} {n m : Nat} {c : Addr → Prop} {H H1 H2 : Hp} {rows : List V}
theorem RwSt.np (s : RwSt p R n m c H H1 rows) {a : Addr} (ha : H a = none) : a ≠ p := fun e => by
  obtain ⟨_, _, _, q⟩ := s.bx0
  rw [← e, ha] at q
  cases q
theorem RwSt.free (s : RwSt p R n m c H H1 rows) {a : Addr} (ha : H1 a = none) : H a = none := by
  cases e : H a with
  | none => rfl
  | some o =>
    by_cases z : a = p
    · subst z
      obtain ⟨_, _, _, q⟩ := s.bx
      rw [ha] at q
      cases q
    · rw [s.bt _ _ z e] at ha
      cases ha
theorem RwSt.but (s : RwSt p R n m c H H1 rows) (b : But p H1 H2) (hb : Box H2 p) : RwSt p R n m c H H2 rows :=
  ⟨s.bx0, s.bt.trans b, hb, b _ _ (s.np s.hR) s.at_, s.hR, s.cR, s.fr, fun a ha => by
    obtain ⟨x, t, ns, h1, h2, h3, h4⟩ := s.ty a ha
    exact ⟨x, t, ns, b _ _ (s.np (s.fr a ha)) h1, h2, s.bx.tk b _ _ h3, h4⟩, s.rw⟩
theorem RwSt.ex (s : RwSt p R n m c H H1 rows) (e : Ex H1 H2) : RwSt p R n m c H H2 rows := s.but (e.but p) (s.bx.ex e)
theorem RwSt.le (s : RwSt p R n m c H H1 rows) {n' m' : Nat} (h1 : n ≤ n') (h2 : m ≤ m') : RwSt p R n' m' c H H1 rows :=
  ⟨s.bx0, s.bt, s.bx, s.at_, s.hR, s.cR, s.fr, fun a ha => by
    obtain ⟨x, t, ns, h3, h4, h5, h6⟩ := s.ty a ha
    exact ⟨x, t, ns, h3, h4, h5, by omega⟩, Nat.le_trans s.rw.1 h2, s.rw.2⟩
theorem RwSt.set (s : RwSt p R n m c H H1 rows) {a t : Addr} {x : Str} {ns : List Int} (ha : c a) (hx : TextOk x) (ht : H1 t = some (.tup (ns.map V.int))) (hl : ns.length ≤ n) : RwSt p R n m c H (upd H1 a (.lst [.str x, .ref t])) rows := by
  obtain ⟨x0, t0, ns0, q, _⟩ := s.ty a ha
  have k : Tk H1 (upd H1 a (.lst [.str x, .ref t])) := ((But.refl a H1).upd).tkl q
  refine ⟨s.bx0, s.bt.at_new (s.fr a ha), s.bx.at_upd (s.np (s.fr a ha)), by rw [upd_ne (fun e => s.cR (by rw [e]; exact ha))]; exact s.at_, s.hR, s.cR, s.fr, fun b hb => ?_, s.rw⟩
  by_cases e : b = a
  · subst e
    exact ⟨x, t, ns, upd_same, hx, k _ _ ht, hl⟩
  · obtain ⟨y, u, ms, h1, h2, h3, h4⟩ := s.ty b hb
    exact ⟨y, u, ms, by rw [upd_ne e]; exact h1, h2, k _ _ h3, h4⟩
end
end Bk
set_option Elab.async false
set_option linter.all false
set_option maxRecDepth 100000
set_option maxHeartbeats 4000000
/-! Bk23: woods as texts. -/
namespace Bk
open PySem PySem.Spec PyProof.Rows L2
/-! ### what a text's rows write -/
/-- the kinds as they are read: a list of tuples, a list of makers in each -/
structure KdAt (H : Hp) (Kl : Addr) (ras : List Addr) (acc : Wd) : Prop where
  kl : ∃ vs, H Kl = some (.lst vs) ∧ vs.length = acc.length ∧ ∀ (i : Nat) (k : Str × List Mk) (m : Addr), acc[i]? = some k → ras[i]? = some m → ∃ a, vs[i]? = some (.ref a) ∧ H a = some (.tup [.str k.1, .ref m])
  rows : Rows H ras (acc.map Prod.snd)
  ne : Kl ∉ ras
section
variable {H H' : Hp} {Kl : Addr} {ras : List Addr} {acc : Wd}
theorem KdAt.ex (h : KdAt H Kl ras acc) (e : Ex H H') : KdAt H' Kl ras acc := by
  obtain ⟨vs, a, b, c⟩ := h.kl
  refine ⟨⟨vs, e _ _ a, b, fun i k m hk hm => ?_⟩, h.rows.keep e.tk fun a _ us q => e _ _ q, h.ne⟩
  obtain ⟨x, d1, d2⟩ := c i k m hk hm
  exact ⟨x, d1, e _ _ d2⟩
theorem KdAt.len (h : KdAt H Kl ras acc) : ras.length = acc.length := by rw [h.rows.len, List.length_map]
theorem KdAt.kind (h : KdAt H Kl ras acc) {vs : List V} {s : Str} {M a : Addr} (hk : H Kl = some (.lst vs)) (hM : H M = some (.lst [])) (hMn : M ∉ ras) (hMK : M ≠ Kl) (ha : H a = some (.tup [.str s, .ref M])) : KdAt (upd H Kl (.lst (vs ++ [.ref a]))) Kl (ras ++ [M]) (acc ++ [(s, [])]) := by
  obtain ⟨vs', b1, b2, b3⟩ := h.kl
  rw [hk] at b1
  cases b1
  have tk : Tk H (upd H Kl (.lst (vs ++ [.ref a]))) := ((But.refl Kl H).upd).tkl hk
  have rl := h.len
  refine ⟨⟨_, upd_same, by rw [List.length_append, List.length_append, b2]; rfl, fun i k m hi hm => ?_⟩, ⟨by rw [List.length_append, List.map_append, List.length_append, List.length_map, rl]; rfl, ?_, fun q x r hx hr => ?_⟩, fun z => ?_⟩
  · by_cases c : i < acc.length
    · rw [List.getElem?_append_left c] at hi
      rw [List.getElem?_append_left (by omega)] at hm
      obtain ⟨x, d1, d2⟩ := b3 i k m hi hm
      exact ⟨x, by rw [List.getElem?_append_left (by omega)]; exact d1, tk _ _ d2⟩
    · rw [List.getElem?_append_right (by omega)] at hi
      rw [List.getElem?_append_right (by omega)] at hm
      have ei : i = acc.length := by
        have := (List.getElem?_eq_some_iff.1 hi).1
        simp at this
        omega
      subst ei
      rw [Nat.sub_self] at hi
      rw [rl, Nat.sub_self] at hm
      cases hi
      cases hm
      exact ⟨a, by rw [List.getElem?_append_right (by omega), b2, Nat.sub_self]; rfl, tk _ _ ha⟩
  · rw [List.nodup_append]
    exact ⟨h.rows.nd, by simp, fun x hx y hy => by rw [List.mem_singleton.1 hy]; exact fun e => hMn (by rw [← e]; exact hx)⟩
  · rw [List.map_append] at hr
    by_cases c : q < acc.length
    · rw [List.getElem?_append_left (by omega)] at hx
      rw [List.getElem?_append_left (by rw [List.length_map]; exact c)] at hr
      obtain ⟨us, d1, d2⟩ := h.rows.at_ q x r hx hr
      have nx : x ≠ Kl := fun e => h.ne (by rw [← e]; exact List.mem_of_getElem? hx)
      exact ⟨us, by rw [upd_ne nx]; exact d1, d2.tk tk (mks_hard r)⟩
    · rw [List.getElem?_append_right (by omega)] at hx
      rw [List.getElem?_append_right (by rw [List.length_map]; omega)] at hr
      have eq : q = acc.length := by
        have := (List.getElem?_eq_some_iff.1 hx).1
        simp at this
        omega
      subst eq
      rw [rl, Nat.sub_self] at hx
      rw [List.length_map, Nat.sub_self] at hr
      cases hx
      cases hr
      exact ⟨[], by rw [upd_ne hMK]; exact hM, by simp only [List.map, Reps]⟩
  · rcases List.mem_append.1 z with z | z
    · exact h.ne z
    · exact hMK (List.mem_singleton.1 z).symm
/-- the last kind, and its list -/
theorem KdAt.last {acc0 : Wd} {k : Str × List Mk} (h : KdAt H Kl ras (acc0 ++ [k])) : ∃ vs a M us, H Kl = some (.lst vs) ∧ vs.length = acc0.length + 1 ∧ vs[acc0.length]? = some (.ref a) ∧ H a = some (.tup [.str k.1, .ref M]) ∧ ras[acc0.length]? = some M ∧ H M = some (.lst us) ∧ Reps H (k.2.map mkD) us := by
  obtain ⟨vs, b1, b2, b3⟩ := h.kl
  have rl := h.len
  rw [List.length_append, List.length_singleton] at rl b2
  have hk : (acc0 ++ [k])[acc0.length]? = some k := by rw [List.getElem?_append_right (Nat.le_refl _), Nat.sub_self]; rfl
  have hm := List.getElem?_eq_getElem (l := ras) (i := acc0.length) (by omega)
  obtain ⟨a, c1, c2⟩ := b3 _ _ _ hk hm
  obtain ⟨us, d1, d2⟩ := h.rows.at_ acc0.length _ k.2 hm (by rw [List.getElem?_map, hk]; rfl)
  exact ⟨vs, a, _, us, b1, b2, c1, c2, hm, d1, d2⟩
end
/-- what is read, within bounds -/
structure RdB (i : Nat) (acc : Wd) : Prop where
  wide : acc.length ≤ i
  name : ∀ k ∈ acc, TextOk k.1
  row : ∀ k ∈ acc, k.2.length ≤ i
  mkr : ∀ k ∈ acc, ∀ m ∈ k.2, TextOk m.1 ∧ m.2.length ≤ 2 ∧ ∀ s ∈ m.2, TextOk s
theorem RdB.kind {i : Nat} {acc : Wd} {s : Str} (h : RdB i acc) (hs : isName s = true) : RdB (i + 1) (acc ++ [(s, [])]) := by
  refine ⟨by rw [List.length_append, List.length_singleton]; have := h.wide; omega, fun k hk => ?_, fun k hk => ?_, fun k hk m hm => ?_⟩
  · rcases List.mem_append.1 hk with hk | hk
    · exact h.name k hk
    · rw [List.mem_singleton.1 hk]; exact isName_text hs
  · rcases List.mem_append.1 hk with hk | hk
    · have := h.row k hk; omega
    · rw [List.mem_singleton.1 hk]; exact Nat.zero_le _
  · rcases List.mem_append.1 hk with hk | hk
    · exact h.mkr k hk m hm
    · rw [List.mem_singleton.1 hk] at hm; cases hm
theorem joinL_len {S : List Nat} : ∀ (ps : List (List Nat)), (TL.joinL S ps).length ≤ (ps.map (·.length + S.length)).sum
  | [] => Nat.zero_le _
  | [p] => by
    show p.length ≤ _
    simp
  | p :: q :: ps => by
    have z := joinL_len (S := S) (q :: ps)
    show (p ++ (S ++ TL.joinL S (q :: ps))).length ≤ _
    rw [List.length_append, List.length_append, List.map_cons, List.sum_cons]
    omega
theorem join_chars {y : Str} {ps : List Str} : (Txt.join y ps).cps.toList = TL.joinL (TL.tl y) (ps.map TL.tl) := by
  have e1 : ∀ s : Str, SX.S (TL.tl s) = s := fun s => by
    apply TL.ext_tl
    show (SX.S (TL.tl s)).cps.toList = s.cps.toList
    unfold SX.S
    simp [TL.tl]
  have e2 : ps = (ps.map TL.tl).map SX.S := by
    rw [List.map_map]
    conv => lhs; rw [← List.map_id ps]
    exact List.map_congr_left fun s _ => (e1 s).symm
  have e3 := SX.join_S (TL.tl y) (ps.map TL.tl)
  rw [← e2, e1 y] at e3
  rw [e3]
theorem join_len {y : Str} {ps : List Str} {b : Nat} (h : ∀ s ∈ ps, s.length ≤ b) : (Txt.join y ps).length ≤ ps.length * (b + y.length) := by
  rw [str_len, join_chars]
  refine Nat.le_trans (joinL_len _) ?_
  rw [List.map_map]
  have e : ((ps.map ((fun p : List Nat => p.length + (TL.tl y).length) ∘ TL.tl)).sum) ≤ ps.length * (b + y.length) := by
    induction ps with
    | nil => exact Nat.zero_le _
    | cons p ps ih =>
      have a := h p List.mem_cons_self
      have z := ih fun s hs => h s (List.mem_cons_of_mem _ hs)
      rw [List.map_cons, List.sum_cons, List.length_cons, Nat.succ_mul]
      have e1 : ((fun p : List Nat => p.length + (TL.tl y).length) ∘ TL.tl) p = p.length + y.length := by
        show p.cps.toList.length + y.cps.toList.length = _
        rw [← str_len, ← str_len]
      rw [e1]
      omega
  exact e
end Bk
set_option Elab.async false
set_option linter.all false
set_option maxRecDepth 100000
set_option maxHeartbeats 4000000
/-! Bk24: replace of written texts behind a token. -/
namespace Bk
open PySem PySem.Spec PyProof.Rows L2
/-- a word that may be put in -/
structure WordOk (b : Nat) (s : Str) : Prop where
  len : s.length ≤ b
  sign : ∀ c ∈ s.cps.toList, c < 0x110000
  few : s.cps.toList.count 10 ≤ 10
/-- a row that may stand among the others: long, some line feeds -/
structure NewRow (b : Nat) (s : Str) : Prop where
  len : s.length ≤ b
  sign : ∀ c ∈ s.cps.toList, c < 0x110000
  few : s.cps.toList.count 10 ≤ 20
theorem app3 (a b : Str) : ((a ++ (" " : Str)) ++ b).cps.toList = a.cps.toList ++ [32] ++ b.cps.toList := by
  show ((a.cps ++ (" " : Str).cps) ++ b.cps).toList = _
  have e : (" " : Str).cps.toList = [32] := by decide +kernel
  rw [Array.toList_append, Array.toList_append, e]
theorem WordOk.two {L : Nat} {s : Str} (h : WordOk (L + 10) s) (hL : 1 ≤ L) : NewRow (3 * L + 20) ((s ++ (" " : Str)) ++ s) := by
  have hl := h.len
  have hf := h.few
  refine ⟨?_, fun c hc => ?_, ?_⟩
  · rw [str_len, app3, List.length_append, List.length_append, List.length_singleton, ← str_len]
    omega
  · rw [app3] at hc
    rcases List.mem_append.1 hc with hc | hc
    · rcases List.mem_append.1 hc with hc | hc
      · exact h.sign c hc
      · rw [List.mem_singleton.1 hc]; decide
    · exact h.sign c hc
  · rw [app3, List.count_append, List.count_append]
    have : List.count 10 [32] = 0 := by decide
    omega
end Bk
set_option Elab.async false
set_option linter.all false
set_option maxRecDepth 100000
set_option maxHeartbeats 4000000
/-! Bk25: a wood that is looked at and let by; what a text of a wood comes to. -/
namespace Bk
open PySem PySem.Spec PyProof.Rows L2
end Bk
set_option Elab.async false
set_option linter.all false
set_option maxRecDepth 100000
set_option maxHeartbeats 4000000
/-! Bk26: zip(a, b) of lists and tuples of one length, of whichever sort each. -/
namespace Bk
open PySem PySem.Spec PyProof.Rows L2
/-! ### the turns -/
end Bk
set_option Elab.async false
set_option linter.all false
set_option maxRecDepth 100000
set_option maxHeartbeats 4000000
/-! Bk27: readers as data: counts and rules; what is amiss in one. -/
namespace Bk
open PySem PySem.Spec PyProof.Rows L2
abbrev Fx := Int × Int
abbrev Tm := Fx × List (Option Int)
abbrev Sm := List Tm
abbrev Rl := List Sm
abbrev Rd := List Int × List Rl
def fxD (f : Fx) : D := .tup [.int f.1, .int f.2]
def bxD : Option Int → D
  | none => .non
  | some i => .int i
def tmD (t : Tm) : D := .tup [fxD t.1, .tup (t.2.map bxD)]
def smD (s : Sm) : D := .tup (s.map tmD)
def rlD (r : Rl) : D := .tup (r.map smD)
def rdD (r : Rd) : D := .tup [.tup (r.1.map D.int), .tup (r.2.map rlD)]
theorem Reps.two {H : Hp} {d e : D} {vs : List V} (h : Reps H [d, e] vs) : ∃ x y, vs = [x, y] ∧ Rep H d x ∧ Rep H e y := by
  obtain ⟨x, r, rfl, hx, h⟩ := h
  obtain ⟨y, r, rfl, hy, h⟩ := h
  have : r = [] := by simpa only [Reps] using h
  subst this
  exact ⟨x, y, rfl, hx, hy⟩
theorem Rep.tupO {H : Hp} {ds : List D} {a : Addr} {xs : List V} (ha : H a = some (.tup xs)) (h : Reps H ds xs) : Rep H (.tup ds) (.ref a) := by
  simp only [Rep]
  exact ⟨a, xs, rfl, ha, h⟩
theorem Rep.rd {H : Hp} {r : Rd} {a c b : Addr} {xs : List V} (ha : H a = some (.tup [.ref c, .ref b])) (hc : H c = some (.tup (r.1.map V.int))) (hb : H b = some (.tup xs)) (rb : Reps H (r.2.map rlD) xs) : Rep H (rdD r) (.ref a) :=
  Rep.two ha (Rep.ints hc) (Rep.tupO hb rb)
theorem boxes_hard : ∀ bs : List (Option Int), D.hards (bs.map bxD) = true
  | [] => rfl
  | b :: bs => by
    show ((bxD b).hard && D.hards (bs.map bxD)) = true
    rw [boxes_hard bs]
    cases b <;> rfl
theorem tm_hard (t : Tm) : (tmD t).hard = true := by
  show ((fxD t.1).hard && (D.hards (t.2.map bxD) && true)) = true
  rw [boxes_hard]
  rfl
theorem hards_map {α : Type} {f : α → D} (h : ∀ x, (f x).hard = true) : ∀ xs : List α, D.hards (xs.map f) = true
  | [] => rfl
  | x :: xs => by
    show ((f x).hard && D.hards (xs.map f)) = true
    rw [h x, hards_map h xs]
    rfl
theorem sm_hard (s : Sm) : (smD s).hard = true := hards_map tm_hard s
theorem rl_hard (r : Rl) : (rlD r).hard = true := hards_map sm_hard r
theorem rd_hard (r : Rd) : (rdD r).hard = true := by
  show (D.hards (r.1.map D.int) && (D.hards (r.2.map rlD) && true)) = true
  rw [ints_hard, hards_map rl_hard]
  rfl
/-! ### what is amiss -/
def cntAt (cs : List Int) (n : Int) : Int := cs.getD n.toNat 0
def boxOk (cs : List Int) (p : Int × Option Int) : Bool := match p.2 with
  | none => true
  | some b => decide (0 ≤ b ∧ b < cntAt cs p.1)
/-! ### bounds -/
theorem gcd_lowest {u l : Int} (h : 0 < l) : (fru u l = u ∧ frl u l = l) ↔ Int.gcd u l = 1 := by
  have e : fpt u l = (Int.gcd u l : Nat) := if_neg (by omega)
  have g0 : 0 < Int.gcd u l := Int.gcd_pos_of_ne_zero_right u (by omega)
  constructor
  · rintro ⟨_, h2⟩
    unfold frl at h2
    rw [e] at h2
    have d : ((Int.gcd u l : Nat) : Int) ∣ l := Int.gcd_dvd_right _ _
    have m := Int.fdiv_mul_cancel d
    rw [h2] at m
    have : l * ((Int.gcd u l : Nat) : Int) = l * 1 := by rw [m, Int.mul_one]
    have := Int.eq_of_mul_eq_mul_left (by omega) this
    omega
  · intro hg
    unfold fru frl
    rw [e, hg]
    exact ⟨Int.fdiv_one u, Int.fdiv_one l⟩
theorem tab_of : ∀ {w : Wd} {n : Nat} {e : Nat × Mk}, e ∈ tabFrom n w → ∃ (i : Nat) (k : Str × List Mk), w[i]? = some k ∧ e.2 ∈ k.2 ∧ e.1 = n + i
  | [], n, e, h => nomatch h
  | k :: w, n, e, h => by
    rcases List.mem_append.1 (show e ∈ k.2.map (fun m => (n, m)) ++ tabFrom (n + 1) w from h) with h | h
    · obtain ⟨m, hm, rfl⟩ := List.mem_map.1 h
      exact ⟨0, k, rfl, hm, rfl⟩
    · obtain ⟨i, k2, h1, h2, h3⟩ := tab_of h
      exact ⟨i + 1, k2, h1, h2, by omega⟩
theorem dueOf_in {w : Wd} (ok : WoodOk w) {e : Nat × Mk} (he : e ∈ tabFrom 0 w) : e.1 < w.length ∧ (dueOf w e).length = e.2.2.length ∧ e.2.2.length ≤ 2 ∧ ∀ x ∈ dueOf w e, 0 ≤ x ∧ x < (w.length : Nat) := by
  obtain ⟨i, k, hk, hm, he1⟩ := tab_of he
  have hkm := List.mem_of_getElem? hk
  have z := ok.mkr k hkm e.2 hm
  refine ⟨?_, by unfold dueOf; rw [List.length_map], z.2.1, fun x hx => ?_⟩
  · have := (List.getElem?_eq_some_iff.1 hk).1
    omega
  · unfold dueOf at hx
    obtain ⟨s, hs, rfl⟩ := List.mem_map.1 hx
    obtain ⟨k2, hk2, e2⟩ := List.mem_map.1 (z.2.2 s hs)
    obtain ⟨j, hj⟩ := List.mem_iff_getElem?.1 hk2
    rw [← e2, kno_idx ok.knd hj]
    have := (List.getElem?_eq_some_iff.1 hj).1
    omega
/-! ### readers that are drawn -/
theorem zip_at {α β : Type} {as : List α} {bs : List β} {i : Nat} {a : α} {b : β} (ha : as[i]? = some a) (hb : bs[i]? = some b) : (as.zip bs)[i]? = some (a, b) := List.getElem?_zip_eq_some.2 ⟨ha, hb⟩
def FxOk (f : Fx) : Prop := 0 < f.2 ∧ Int.gcd f.1 f.2 = 1 ∧ f.1.natAbs ≤ 1000 ∧ f.2 ≤ 100
structure TmOk (cs ps : List Int) (t : Tm) : Prop where
  num : FxOk t.1
  len : t.2.length = ps.length
  box : (ps.zip t.2).all (boxOk cs) = true
structure RdOk (w : Wd) (r : Rd) : Prop where
  counts : r.1.length = w.length
  count : ∀ c ∈ r.1, 0 ≤ c ∧ c ≤ 4
  rules : r.2.length = (tabFrom 0 w).length
  rule : ∀ (j : Nat) (e : Nat × Mk) (x : Rl), (tabFrom 0 w)[j]? = some e → r.2[j]? = some x → (x.length : Int) = cntAt r.1 e.1 ∧ ∀ s ∈ x, s.length ≤ 6 ∧ ∀ t ∈ s, TmOk r.1 (dueOf w e) t
theorem fx_low {u l : Int} (h : 0 < l) : 0 < l.fdiv ((Int.gcd u l : Nat) : Int) ∧ Int.gcd (u.fdiv ((Int.gcd u l : Nat) : Int)) (l.fdiv ((Int.gcd u l : Nat) : Int)) = 1 ∧ (u.fdiv ((Int.gcd u l : Nat) : Int)).natAbs ≤ u.natAbs ∧ l.fdiv ((Int.gcd u l : Nat) : Int) ≤ l := by
  have g0 : 0 < Int.gcd u l := Int.gcd_pos_of_ne_zero_right u (by omega)
  have g1 : ((Int.gcd u l : Nat) : Int) ≠ 0 := by omega
  have d1 : ((Int.gcd u l : Nat) : Int) ∣ u := Int.gcd_dvd_left _ _
  have d2 : ((Int.gcd u l : Nat) : Int) ∣ l := Int.gcd_dvd_right _ _
  have m1 := Int.fdiv_mul_cancel d1
  have m2 := Int.fdiv_mul_cancel d2
  have p2 : 0 < l.fdiv ((Int.gcd u l : Nat) : Int) := by
    refine Int.pos_of_mul_pos_left ?_ (by omega : (0 : Int) < ((Int.gcd u l : Nat) : Int))
    rw [m2]
    exact h
  refine ⟨p2, ?_, fdiv_le g1 d1, ?_⟩
  · have := Int.gcd_mul_right (u.fdiv ((Int.gcd u l : Nat) : Int)) ((Int.gcd u l : Nat) : Int) (l.fdiv ((Int.gcd u l : Nat) : Int))
    rw [m1, m2] at this
    rw [Int.natAbs_natCast] at this
    have e : Int.gcd (u.fdiv ((Int.gcd u l : Nat) : Int)) (l.fdiv ((Int.gcd u l : Nat) : Int)) * Int.gcd u l = 1 * Int.gcd u l := by omega
    exact Nat.eq_of_mul_eq_mul_right g0 e
  · have := fdiv_le g1 d2
    omega
/-! ### readers spoilt -/
end Bk
set_option Elab.async false
set_option linter.all false
set_option maxRecDepth 100000
set_option maxHeartbeats 4000000
/-! Bk28: readers spoilt, within bounds. -/
namespace Bk
open PySem PySem.Spec PyProof.Rows L2
def TmN (n : Nat) (t : Tm) : Prop := t.2.length ≤ 2 + n ∧ Bits 20 t.1.1 ∧ Bits 20 t.1.2
def SmN (n : Nat) (s : Sm) : Prop := s.length ≤ 6 + n ∧ ∀ t ∈ s, TmN n t
def RlN (n : Nat) (x : Rl) : Prop := x.length ≤ 4 + n ∧ ∀ s ∈ x, SmN n s
structure RdN (n : Nat) (r : Rd) : Prop where
  counts : r.1.length ≤ 4 + n
  rules : r.2.length ≤ 12 + n
  rule : ∀ x ∈ r.2, RlN n x
theorem TmN.le {n m : Nat} {t : Tm} (h : TmN n t) (hm : n ≤ m) : TmN m t := ⟨by have := h.1; omega, h.2⟩
theorem SmN.le {n m : Nat} {s : Sm} (h : SmN n s) (hm : n ≤ m) : SmN m s := ⟨by have := h.1; omega, fun t ht => (h.2 t ht).le hm⟩
theorem RlN.le {n m : Nat} {x : Rl} (h : RlN n x) (hm : n ≤ m) : RlN m x := ⟨by have := h.1; omega, fun s hs => (h.2 s hs).le hm⟩
theorem RdN.le {n m : Nat} {r : Rd} (h : RdN n r) (hm : n ≤ m) : RdN m r := ⟨by have := h.counts; omega, by have := h.rules; omega, fun x hx => (h.rule x hx).le hm⟩
/-! ### what stands while a box is drawn from -/
def Kp (p : Addr) (H H' : Hp) : Prop := But p H H' ∧ Box H' p ∧ Tk H H'
theorem Kp.refl {p : Addr} {H : Hp} (h : Box H p) : Kp p H H := ⟨But.refl _ _, h, Tk.refl _⟩
theorem Kp.but {p : Addr} {H H1 H2 : Hp} (k : Kp p H H1) (b : But p H1 H2) (hb : Box H2 p) : Kp p H H2 := ⟨k.1.trans b, hb, k.2.2.trans (k.2.1.tk b)⟩
theorem Kp.ex {p : Addr} {H H1 H2 : Hp} (k : Kp p H H1) (e : Ex H1 H2) : Kp p H H2 := k.but (e.but p) (k.2.1.ex e)
theorem Kp.trans {p : Addr} {H H1 H2 : Hp} (k : Kp p H H1) (k2 : Kp p H1 H2) : Kp p H H2 := k.but k2.1 k2.2.1
theorem Reps.tkm {α : Type} {f : α → D} {H H' : Hp} {as : List α} {xs : List V} (t : Tk H H') (hf : ∀ a, (f a).hard = true) (r : Reps H (as.map f) xs) : Reps H' (as.map f) xs := Reps.tk t (hards_map hf as) r
theorem Kp.free {p a : Addr} {H H1 : Hp} (k : Kp p H H1) (h : H1 a = none) : H a = none := by
  have n := k.2.1.ne h
  cases e : H a with
  | none => rfl
  | some o =>
    have := k.1 a o n e
    rw [h] at this
    cases this
theorem Kp.ne {p a : Addr} {H H1 : Hp} (k : Kp p H H1) (h : H1 a = none) : a ≠ p := k.2.1.ne h
/-! ### what is told is text -/
end Bk
set_option Elab.async false
set_option linter.all false
set_option maxRecDepth 100000
set_option maxHeartbeats 4000000
/-! Bk29: fractions added and multiplied, how great they become. -/
namespace Bk
open PySem PySem.Spec PyProof.Rows L2
/-- the lower number goes into N, the worth is at most A -/
structure Szf (A N : Nat) (f : Fx) : Prop where
  pos : 0 < f.2
  dvd : f.2.natAbs ∣ N
  le : f.1.natAbs ≤ A * f.2.natAbs
def lowF (u l : Int) : Fx := (fru u l, frl u l)
def mulF (f g : Fx) : Fx := lowF (f.1 * g.1) (f.2 * g.2)
def addF (f g : Fx) : Fx := lowF (f.1 * g.2 + g.1 * f.2) (f.2 * g.2)
theorem Szf.mono {A B N M : Nat} {f : Fx} (h : Szf A N f) (ha : A ≤ B) (hn : N ∣ M) : Szf B M f := ⟨h.pos, Nat.dvd_trans h.dvd hn, Nat.le_trans h.le (Nat.mul_le_mul_right _ ha)⟩
theorem low_parts {u l : Int} (h : 0 < l) : fru u l * (Int.gcd u l : Nat) = u ∧ frl u l * (Int.gcd u l : Nat) = l ∧ 0 < frl u l ∧ Nat.gcd (fru u l).natAbs (frl u l).natAbs = 1 := by
  have e : fpt u l = (Int.gcd u l : Nat) := if_neg (by omega)
  obtain ⟨f1, f2, _, _⟩ := fx_low (u := u) h
  have d1 : ((Int.gcd u l : Nat) : Int) ∣ u := Int.gcd_dvd_left _ _
  have d2 : ((Int.gcd u l : Nat) : Int) ∣ l := Int.gcd_dvd_right _ _
  unfold fru frl
  rw [e]
  exact ⟨Int.fdiv_mul_cancel d1, Int.fdiv_mul_cancel d2, f1, f2⟩
theorem low_sz {A N : Nat} {u l c : Int} (h : 0 < l) (hN : u * (N : Int) = c * l) (hA : u.natAbs ≤ A * l.natAbs) : Szf A N (lowF u l) := by
  obtain ⟨e1, e2, e3, e4⟩ := low_parts (u := u) h
  have g0 : 0 < Int.gcd u l := Int.gcd_pos_of_ne_zero_right u (by omega)
  have g1 : ((Int.gcd u l : Nat) : Int) ≠ 0 := by omega
  refine ⟨e3, ?_, ?_⟩
  · show (frl u l).natAbs ∣ N
    have k : fru u l * (N : Int) = c * frl u l := by
      refine Int.eq_of_mul_eq_mul_right g1 ?_
      rw [Int.mul_assoc, Int.mul_comm (N : Int), ← Int.mul_assoc, e1, hN, Int.mul_assoc, e2]
    have k2 : (frl u l).natAbs ∣ (fru u l).natAbs * N := by
      refine ⟨c.natAbs, ?_⟩
      have := congrArg Int.natAbs k
      rw [Int.natAbs_mul, Int.natAbs_mul, Int.natAbs_natCast] at this
      rw [this, Nat.mul_comm]
    exact Nat.Coprime.dvd_of_dvd_mul_left (Nat.Coprime.symm e4) k2
  · show (fru u l).natAbs ≤ A * (frl u l).natAbs
    refine Nat.le_of_mul_le_mul_right ?_ g0
    have a1 := congrArg Int.natAbs e1
    have a2 := congrArg Int.natAbs e2
    rw [Int.natAbs_mul, Int.natAbs_natCast] at a1 a2
    rw [a1, Nat.mul_assoc, a2]
    exact hA
theorem Szf.mul {A B N M : Nat} {f g : Fx} (h : Szf A N f) (k : Szf B M g) : Szf (A * B) (N * M) (mulF f g) := by
  obtain ⟨x, hx⟩ := Nat.mul_dvd_mul h.dvd k.dvd
  have e : (f.2 * g.2).natAbs = f.2.natAbs * g.2.natAbs := Int.natAbs_mul _ _
  refine low_sz (c := f.1 * g.1 * (x : Int)) (Int.mul_pos h.pos k.pos) ?_ ?_
  · have e2 : ((N * M : Nat) : Int) = (f.2 * g.2) * (x : Int) := by
      rw [hx, Int.natCast_mul, Int.natCast_mul, Int.natAbs_of_nonneg (Int.le_of_lt h.pos), Int.natAbs_of_nonneg (Int.le_of_lt k.pos)]
    rw [e2]
    ac_rfl
  · rw [Int.natAbs_mul, e]
    refine Nat.le_trans (Nat.mul_le_mul h.le k.le) ?_
    exact Nat.le_of_eq (by rw [Nat.mul_mul_mul_comm])
theorem Szf.bits {A N n m : Nat} {f : Fx} (h : Szf A N f) (hN : N < 2 ^ n) (hA : A < 2 ^ m) (h0 : 0 < N) : Bits n f.2 ∧ Bits (m + n) f.1 := by
  have l2 : f.2.natAbs ≤ N := Nat.le_of_dvd h0 h.dvd
  refine ⟨Nat.lt_of_le_of_lt l2 hN, ?_⟩
  show f.1.natAbs < 2 ^ (m + n)
  refine Nat.lt_of_le_of_lt h.le ?_
  rw [Nat.pow_add]
  refine Nat.lt_of_le_of_lt (Nat.mul_le_mul_left _ l2) ?_
  exact Nat.mul_lt_mul'' hA hN
def stepF (f : Fx) (x : List Fx × Option Int) : Fx := match x.2 with
  | none => f
  | some i => mulF f (x.1.getD i.toNat (0, 1))
def prodF (f : Fx) (l : List (List Fx × Option Int)) : Fx := l.foldl stepF f
def plusF (parts : List (List Fx)) (f : Fx) (t : Tm) : Fx := addF f (prodF t.1 (parts.zip t.2))
def sumF (parts : List (List Fx)) (s : Sm) : Fx := s.foldl (plusF parts) (0, 1)
def madeF (parts : List (List Fx)) (r : Rl) : List Fx := r.map (sumF parts)
/-- a sum's terms fit: as many boxes as parts, each there, no product too great -/
structure FitS (A N : Nat) (parts : List (List Fx)) (s : Sm) : Prop where
  many : s.length ≤ 6
  term : ∀ t ∈ s, t.2.length = parts.length ∧ (∀ (j : Nat) (p : List Fx) (i : Int), parts[j]? = some p → t.2[j]? = some (some i) → 0 ≤ i ∧ i < (p.length : Nat)) ∧ ∀ j, Szf A N (prodF t.1 ((parts.zip t.2).take j))
structure FitP (A N : Nat) (parts : List (List Fx)) : Prop where
  nat : 0 < N
  lower : N < 2 ^ 4200
  upper : 6 * A < 2 ^ 1000
  part : ∀ p ∈ parts, ∀ f ∈ p, Szf A N f
theorem FitP.num {A N : Nat} {parts : List (List Fx)} (h : FitP A N parts) {B : Nat} {f : Fx} (hB : B ≤ 6 * A) (s : Szf B N f) : 0 < f.2 ∧ Bits 6000 f.1 ∧ Bits 4400 f.2 := by
  have z := s.bits h.lower (Nat.lt_of_le_of_lt hB h.upper) h.nat
  exact ⟨s.pos, z.2.le, z.1.le⟩
end Bk
set_option Elab.async false
set_option linter.all false
set_option maxRecDepth 100000
set_option maxHeartbeats 4000000
/-! Bk30: zip(a, b, c) of lists and tuples of one length. -/
namespace Bk
open PySem PySem.Spec PyProof.Rows L2
end Bk
set_option Elab.async false
set_option linter.all false
set_option maxRecDepth 100000
set_option maxHeartbeats 4000000
/-! Bk31: readers as deeds. -/
namespace Bk
open PySem PySem.Spec PyProof.Rows L2
/-! ### contracts -/
end Bk
set_option Elab.async false
set_option linter.all false
set_option maxRecDepth 100000
set_option maxHeartbeats 4000000
/-! Bk32: deeds done on a bench. -/
namespace Bk
open PySem PySem.Spec PyProof.Rows L2
def LowF (f : Fx) : Prop := 0 < f.2 ∧ Int.gcd f.1 f.2 = 1
theorem lowF_low {u l : Int} (h : 0 < l) : LowF (lowF u l) := by
  obtain ⟨_, _, e3, e4⟩ := low_parts (u := u) h
  exact ⟨e3, e4⟩
/-! ### the same fractions compared -/
end Bk
set_option Elab.async false
set_option linter.all false
set_option maxRecDepth 100000
set_option maxHeartbeats 4000000
/-! Bk33: small fractions in boxes; readers told as deeds. -/
namespace Bk
open PySem PySem.Spec PyProof.Rows L2
theorem FxOk.low {f : Fx} (h : FxOk f) : LowF f := ⟨h.1, h.2.1⟩
/-- a box, a wood, a reader asked about -/
def AskedAt (H : Hp) (x : V) : Prop := ∃ (a p : Addr) (w : Wd) (r : Rd) (wv rv : V), x = .ref a ∧ H a = some (.tup [.ref p, wv, rv]) ∧ Box H p ∧ Rep H (woodD w) wv ∧ WoodOk w ∧ Rep H (rdD r) rv ∧ RdOk w r
theorem AskedAt.ex {H H' : Hp} {x : V} (h : AskedAt H x) (e : Ex H H') : AskedAt H' x := by
  obtain ⟨a, p, w, r, wv, rv, h1, h2, h3, h4, h5, h6, h7⟩ := h
  exact ⟨a, p, w, r, wv, rv, h1, e _ _ h2, h3.ex e, h4.ex e, h5, h6.ex e, h7⟩
theorem AskedAt.kp {H H' : Hp} {x : V} {q : Addr} (h : AskedAt H x) (k : Kp q H H') : AskedAt H' x := by
  obtain ⟨a, p, w, r, wv, rv, h1, h2, h3, h4, h5, h6, h7⟩ := h
  refine ⟨a, p, w, r, wv, rv, h1, k.2.2 _ _ h2, ?_, h4.tk k.2.2 (wood_hard w), h5, h6.tk k.2.2 (rd_hard r), h7⟩
  by_cases c : p = q
  · subst c
    exact k.2.1
  · exact h3.but k.1 c
end Bk
set_option Elab.async false
set_option linter.all false
set_option maxRecDepth 100000
set_option maxHeartbeats 4000000
/-! Bk34: trees read by readers. -/
namespace Bk
open PySem PySem.Spec PyProof.Rows L2
/-! ### a tree's rows, one after the other -/
def ruleOf (w : Wd) (r : Rd) (s : Str) : Rl := match ((tabFrom 0 w).zip r.2).find? (fun x => decide (x.1.2.1 = s)) with
  | some x => x.2
  | none => []
def partsF (acc : List (List Fx)) (ns : List Int) : List (List Fx) := ns.map fun n => acc.getD n.toNat []
def rowF (w : Wd) (r : Rd) (acc : List (List Fx)) (row : Str × List Int) : List Fx := madeF (partsF acc row.2) (ruleOf w r row.1)
def readF (w : Wd) (r : Rd) (t : Tr) : List (List Fx) := t.foldl (fun acc row => acc ++ [rowF w r acc row]) []
structure RowFit (w : Wd) (r : Rd) (acc : List (List Fx)) (row : Str × List Int) : Prop where
  made : ∃ (j : Nat) (e : Nat × Mk), (tabFrom 0 w)[j]? = some e ∧ e.2.1 = row.1 ∧ r.2[j]? = some (ruleOf w r row.1)
  idx : ∀ n ∈ row.2, 0 ≤ n ∧ n < (acc.length : Nat)
  two : row.2.length ≤ 2
  rule : (ruleOf w r row.1).length ≤ 10
  fits : ∃ A N, FitP A N (partsF acc row.2) ∧ ∀ s ∈ ruleOf w r row.1, FitS A N (partsF acc row.2) s
def TreeFit (w : Wd) (r : Rd) (t : Tr) : Prop := ∀ (i : Nat) (row : Str × List Int), t[i]? = some row → RowFit w r (readF w r (t.take i)) row
/-! ### how great the rows' trees are -/
structure SzsOk (size : Int) (t : Tr) (szs : List Int) : Prop where
  le : ∀ s ∈ szs, 1 ≤ s ∧ s ≤ size
  row : ∀ (j : Nat) (r : Str × List Int), t[j]? = some r → szs[j]? = some (1 + (r.2.map fun n => szs.getD n.toNat 0).sum) ∧ ∀ n ∈ r.2, 0 ≤ n ∧ n < (j : Int)
theorem SzsOk.nil {size : Int} : SzsOk size [] [] := ⟨fun s h => (nomatch h), fun j r h => by simp at h⟩
theorem sum_nonneg : ∀ {l : List Int}, (∀ x ∈ l, 0 ≤ x) → 0 ≤ l.sum
  | [], _ => Int.le_refl _
  | x :: l, h => by
    have a := h x List.mem_cons_self
    have b := sum_nonneg (l := l) fun y hy => h y (List.mem_cons_of_mem _ hy)
    rw [List.sum_cons]
    omega
end Bk
set_option Elab.async false
set_option linter.all false
set_option maxRecDepth 100000
set_option maxHeartbeats 4000000
/-! Bk35: how great the fractions in a tree's boxes become. -/
namespace Bk
open PySem PySem.Spec PyProof.Rows L2
structure PartsAt (w : Wd) (r : Rd) (t : Tr) (i : Nat) (row : Str × List Int) (j : Nat) (e : Nat × Mk) : Prop where
  tab : (tabFrom 0 w)[j]? = some e
  nm : e.2.1 = row.1
  len : row.2.length = (dueOf w e).length
  two : row.2.length ≤ 2
  idx : ∀ (u : Nat) (n : Int), row.2[u]? = some n → 0 ≤ n ∧ n < (i : Int) ∧ ∃ q, t[n.toNat]? = some q ∧ (dueOf w e)[u]? = some (kindAt w q.1)
  kind : kindAt w row.1 = (e.1 : Nat)
/-! ### small whole numbers, one box in a term -/
end Bk
set_option Elab.async false
set_option linter.all false
set_option maxRecDepth 100000
set_option maxHeartbeats 4000000
/-! Bk36: thin readers; what k15 asks about. -/
namespace Bk
open PySem PySem.Spec PyProof.Rows L2
def AskedT (H : Hp) (x : V) : Prop := ∃ (a : Addr) (w : Wd) (r : Rd) (t : Tr) (wv rv tv : V), x = .ref a ∧ H a = some (.tup [wv, rv, tv]) ∧ Rep H (woodD w) wv ∧ WoodOk w ∧ Rep H (rdD r) rv ∧ RdOk w r ∧ Rep H (treeD t) tv ∧ t.length ≤ 60 ∧ t ≠ [] ∧ TreeFit w r t
theorem AskedT.tk {H H' : Hp} {x : V} (h : AskedT H x) (e : Tk H H') : AskedT H' x := by
  obtain ⟨a, w, r, t, wv, rv, tv, h1, h2, h3, h4, h5, h6, h7, h8⟩ := h
  exact ⟨a, w, r, t, wv, rv, tv, h1, e _ _ h2, h3.tk e (wood_hard w), h4, h5.tk e (rd_hard r), h6, h7.tk e (tree_hard t), h8⟩
end Bk
set_option Elab.async false
set_option linter.all false
set_option maxRecDepth 100000
set_option maxHeartbeats 4000000
/-! Bk37: names drawn, alike but at one place (the later laws' names). -/
namespace Bk
open PySem PySem.Spec PyProof.Rows L2
end Bk
set_option Elab.async false
set_option linter.all false
set_option maxRecDepth 100000
set_option maxHeartbeats 4000000
/-! Bk38: dicts whose keys are (text, (whole numbers)). -/
namespace Bk
open PySem PySem.Spec PyProof.Rows L2
/-- a mark: a name and whole numbers -/
abbrev Mark := Str × List Int
def nk (m : Mark) : NestedKey := .tup [.text m.1, .tup (m.2.map NestedKey.num)]
theorem nums_inj : ∀ {a b : List Int}, a.map NestedKey.num = b.map NestedKey.num → a = b
  | [], [], _ => rfl
  | [], _ :: _, h => nomatch h
  | _ :: _, [], h => nomatch h
  | x :: a, y :: b, h => by
    rw [List.map_cons, List.map_cons] at h
    injection h with h1 h2
    injection h1 with h1
    rw [h1, nums_inj h2]
theorem nk_inj {a b : Mark} (h : nk a = nk b) : a = b := by
  unfold nk at h
  injection h with h
  injection h with h1 h2
  injection h1 with h1
  injection h2 with h2 _
  injection h2 with h2
  exact Prod.ext h1 (nums_inj h2)
/-- the mark m stands at a -/
def MarkAt (H : Hp) (a : Addr) (m : Mark) : Prop := ∃ t, H a = some (.tup [.str m.1, .ref t]) ∧ H t = some (.tup (m.2.map V.int))
theorem MarkAt.tk {H H' : Hp} {a : Addr} {m : Mark} (t : Tk H H') (h : MarkAt H a m) : MarkAt H' a m := by
  obtain ⟨q, a1, a2⟩ := h
  exact ⟨q, t _ _ a1, t _ _ a2⟩
/-- the entries: mark, its address, what is held -/
abbrev Nx : List (Mark × Addr × V) → List (NestedKey × Addr × Value) → Prop := Paired fun p q => q.1 = nk p.1 ∧ q.2.1 = p.2.1 ∧ RelV p.2.2 q.2.2
def kvm (ps : List (Mark × Addr × V)) : List (Mark × V) := ps.map fun p => (p.1, p.2.2)
def NdO (P : Program) (w : World) (a : Addr) (ps : List (Mark × Addr × V)) : HO := .ext fun h => ps.length ≤ sizeLine ∧ (a == sysModules) = false ∧ ∃ xs, Nx ps xs ∧
  ∃ o es ep, h.get? a = some o ∧ o.ExactDict ∧ o.data = .dict es ep ∧ es.toList = xs.map (entryOfKey (nestedKind P w)) ∧ (xs.map (·.1)).Nodup
/-- the dict at a has these entries -/
def NdAt (P : Program) (w : World) (H : Hp) (a : Addr) (ps : List (Mark × Addr × V)) : Prop := (H a = some (NdO P w a ps) ∨ (ps = [] ∧ H a = some (.dK []))) ∧ ∀ p ∈ ps, MarkAt H p.2.1 p.1
section
variable {P : Program} {w : World} {H : Hp} {h : Heap} {a : Addr} {ps : List (Mark × Addr × V)}
theorem NdAt.notTup (g : NdAt P w H a ps) : ∀ b ys, H b = some (.tup ys) → b ≠ a := fun b ys e z => by
  subst z
  rcases g.1 with q | ⟨_, q⟩
  · rw [e] at q
    cases q
  · rw [e] at q
    cases q
theorem NdAt.at_some (g : NdAt P w H a ps) : H a = some ((H a).getD (.dK [])) := by
  rcases g.1 with e | ⟨_, e⟩ <;> rw [e] <;> rfl
theorem NdAt.ex {H' : Hp} (g : NdAt P w H a ps) (e : Ex H H') : H' a = H a := by
  rw [g.at_some]
  exact e _ _ g.at_some
theorem Nx.val {xs : List (NestedKey × Addr × Value)} (r : Nx ps xs) (m : Mark) : RelO (valV (kvm ps) m) ((atKey xs (nk m)).map (·.2)) := by
  induction r with
  | nil => exact True.intro
  | @cons p q ps qs h t ih =>
    obtain ⟨h1, _, h2⟩ := h
    by_cases e : p.1 = m
    · have e' : q.1 = nk m := by rw [h1, e]
      have b : atKey (q :: qs) (nk m) = some q.2 := by simp [atKey, List.find?_cons, e']
      rw [b]
      show RelO (valV ((p.1, p.2.2) :: kvm ps) m) _
      rw [valV_pos (p := (p.1, p.2.2)) e]
      exact h2
    · have e' : ¬ q.1 = nk m := fun z => e (nk_inj (h1.symm.trans z))
      have b : atKey (q :: qs) (nk m) = atKey qs (nk m) := by simp [atKey, List.find?_cons, e']
      rw [b]
      show RelO (valV ((p.1, p.2.2) :: kvm ps) m) _
      rw [valV_neg (p := (p.1, p.2.2)) e]
      exact ih
theorem Nx.len {xs : List (NestedKey × Addr × Value)} (r : Nx ps xs) : ps.length = xs.length := Paired.length r
theorem NdAt.keep {H' : Hp} (g : NdAt P w H a ps) (ha : H' a = H a) (t : Tk H H') : NdAt P w H' a ps := ⟨by rw [ha]; exact g.1, fun p hp => (g.2 p hp).tk t⟩
/-- an entry put behind -/
theorem NdAt.snoc (g : NdAt P w H a ps) {m : Mark} {b : Addr} (hb : MarkAt H b m) (v : V) : NdAt P w (upd H a (NdO P w a (ps ++ [(m, b, v)]))) a (ps ++ [(m, b, v)]) := by
  have t : Tk H (upd H a (NdO P w a (ps ++ [(m, b, v)]))) := fun c ys e => by
    rw [upd_ne (g.notTup c ys e)]
    exact e
  refine ⟨.inl upd_same, fun p hp => ?_⟩
  rcases List.mem_append.1 hp with hp | hp
  · exact (g.2 p hp).tk t
  · rw [List.mem_singleton.1 hp]
    exact hb.tk t
end
end Bk
set_option Elab.async false
set_option linter.all false
set_option maxRecDepth 100000
set_option maxHeartbeats 4000000
/-! Bk39: printers as data, drawn. -/
namespace Bk
open PySem PySem.Spec PyProof.Rows L2
/-! ### list(text) -/
/-! ### printers -/
abbrev Itm := Str ⊕ (Int × Int)
def bdD (b : Int × Int) : D := .tup [.int b.1, .int b.2]
def itD : Itm → D
  | .inl s => .str s
  | .inr b => bdD b
theorem it_hard (i : Itm) : (itD i).hard = true := by cases i <;> rfl
/-! ### lists that are filled row by row -/
structure RowsI (H : Hp) (ras : List Addr) (R : List (List Itm)) : Prop where
  len : ras.length = R.length
  nd : ras.Nodup
  at_ : ∀ (q : Nat) (a : Addr) (r : List Itm), ras[q]? = some a → R[q]? = some r → ∃ us, H a = some (.lst us) ∧ Reps H (r.map itD) us
theorem RowsI.get {H : Hp} {ras : List Addr} {R : List (List Itm)} (h : RowsI H ras R) {q : Nat} (hq : q < R.length) : ∃ a r us, ras[q]? = some a ∧ R[q]? = some r ∧ H a = some (.lst us) ∧ Reps H (r.map itD) us := by
  have hq2 : q < ras.length := by rw [h.len]; exact hq
  obtain ⟨us, a, b⟩ := h.at_ q _ _ (List.getElem?_eq_getElem hq2) (List.getElem?_eq_getElem hq)
  exact ⟨_, _, us, List.getElem?_eq_getElem hq2, List.getElem?_eq_getElem hq, a, b⟩
theorem RowsI.keep {H H' : Hp} {ras : List Addr} {R : List (List Itm)} (h : RowsI H ras R) (t : Tk H H') (k : ∀ a ∈ ras, ∀ us, H a = some (.lst us) → H' a = some (.lst us)) : RowsI H' ras R := ⟨h.len, h.nd, fun q a r ha hr => by
  obtain ⟨us, hu, rs⟩ := h.at_ q a r ha hr
  exact ⟨us, k a (List.mem_of_getElem? ha) us hu, rs.tkm t it_hard⟩⟩
theorem Reps.erase {H : Hp} : ∀ {ds : List D} {vs : List V} {i : Nat}, Reps H ds vs → Reps H (ds.eraseIdx i) (vs.eraseIdx i)
  | [], vs, i, h => by
    simp only [Reps] at h
    subst h
    simp only [List.eraseIdx_nil, Reps]
  | d :: ds, vs, i, h => by
    obtain ⟨v, r, rfl, hv, hr⟩ := h
    cases i with
    | zero => exact hr
    | succ i => exact ⟨v, r.eraseIdx i, rfl, hv, Reps.erase hr⟩
end Bk
set_option Elab.async false
set_option linter.all false
set_option maxRecDepth 100000
set_option maxHeartbeats 4000000
/-! Bk40: the later laws' trees: drawn, their sizes. -/
namespace Bk
open PySem PySem.Spec PyProof.Rows L2
structure TreeS (p R Kd : Addr) (w : Wd) (H H1 : Hp) (t : Tr) (rvs : List V) : Prop where
  bx0 : Box H p
  bt : But p H H1
  bx : Box H1 p
  hR : H R = none
  hK : H Kd = none
  RK : R ≠ Kd
  atR : H1 R = some (.lst rvs)
  atK : H1 Kd = some (.lst ((kindsT w t).map V.int))
  reps : Reps H1 (t.map rowD) rvs
  go : goTr w [] t = true
  row : ∀ r ∈ t, TextOk r.1 ∧ r.2.length ≤ 2
section
variable {p R Kd : Addr} {w : Wd} {H H1 H2 : Hp} {t : Tr} {rvs : List V}
theorem TreeS.np (s : TreeS p R Kd w H H1 t rvs) {a : Addr} (ha : H a = none) : a ≠ p := s.bx0.ne ha
theorem TreeS.free (s : TreeS p R Kd w H H1 t rvs) {a : Addr} (ha : H1 a = none) : H a = none := by
  cases e : H a with
  | none => rfl
  | some o =>
    by_cases z : a = p
    · subst z
      obtain ⟨_, _, _, q⟩ := s.bx
      rw [ha] at q
      cases q
    · rw [s.bt _ _ z e] at ha
      cases ha
theorem TreeS.but (s : TreeS p R Kd w H H1 t rvs) (b : But p H1 H2) (hb : Box H2 p) : TreeS p R Kd w H H2 t rvs :=
  { s with bt := s.bt.trans b, bx := hb, atR := b _ _ (s.np s.hR) s.atR, atK := b _ _ (s.np s.hK) s.atK, reps := s.reps.tk (s.bx.tk b) (rows_hard t) }
theorem TreeS.ex (s : TreeS p R Kd w H H1 t rvs) (e : Ex H1 H2) : TreeS p R Kd w H H2 t rvs := s.but (e.but p) (s.bx.ex e)
theorem TreeS.len (s : TreeS p R Kd w H H1 t rvs) : rvs.length = t.length := by rw [s.reps.len, List.length_map]
end
end Bk
set_option Elab.async false
set_option linter.all false
set_option maxRecDepth 100000
set_option maxHeartbeats 4000000
/-! Bk41: values of a tree's rows; the plain tree, step by step. -/
namespace Bk
open PySem PySem.Spec PyProof.Rows L2
/-! ### values of the rows -/
section
variable {β : Type}
def foldV (d : β) (f : Str → List β → β) (t : Tr) : List β := t.foldl (fun acc row => acc ++ [f row.1 (row.2.map fun n => acc.getD n.toNat d)]) []
theorem fold_len {γ : Type} (g : List β → γ → β) : ∀ (l : List γ) (acc : List β), (l.foldl (fun acc row => acc ++ [g acc row]) acc).length = acc.length + l.length
  | [], acc => rfl
  | r :: l, acc => by
    show (l.foldl _ (acc ++ [g acc r])).length = _
    rw [fold_len g l, List.length_append, List.length_cons, List.length_cons, List.length_nil]
    omega
theorem fold_pre {γ : Type} (g : List β → γ → β) : ∀ (l : List γ) (acc : List β), (l.foldl (fun acc row => acc ++ [g acc row]) acc).take acc.length = acc
  | [], acc => List.take_length
  | r :: l, acc => by
    show (l.foldl _ (acc ++ [g acc r])).take acc.length = acc
    have ih := congrArg (List.take acc.length) (fold_pre g l (acc ++ [g acc r]))
    rw [List.take_take, List.length_append, Nat.min_eq_left (Nat.le_add_right _ _)] at ih
    rw [ih, List.take_append_of_le_length (Nat.le_refl _), List.take_length]
variable {d : β} {f : Str → List β → β} {t : Tr}
theorem foldV_snoc {r : Str × List Int} : foldV d f (t ++ [r]) = foldV d f t ++ [f r.1 (r.2.map fun n => (foldV d f t).getD n.toNat d)] := by
  unfold foldV
  rw [List.foldl_append]
  rfl
theorem foldV_len : (foldV d f t).length = t.length := by
  exact (fold_len (fun (acc : List β) (row : Str × List Int) => f row.1 (row.2.map fun n => acc.getD n.toNat d)) t []).trans (by rw [List.length_nil, Nat.zero_add])
theorem foldV_pre (i : Nat) (h : i ≤ t.length) : (foldV d f t).take i = foldV d f (t.take i) := by
  have e : foldV d f t = (t.drop i).foldl (fun acc row => acc ++ [f row.1 (row.2.map fun n => acc.getD n.toNat d)]) (foldV d f (t.take i)) := by
    show t.foldl _ [] = _
    have z := congrArg (List.foldl (fun acc row => acc ++ [f row.1 (row.2.map fun n => acc.getD n.toNat d)]) []) (List.take_append_drop i t).symm
    rw [List.foldl_append] at z
    exact z
  have l : (foldV d f (t.take i)).length = i := by rw [foldV_len, List.length_take]; omega
  have p := fold_pre (fun (acc : List β) (row : Str × List Int) => f row.1 (row.2.map fun n => acc.getD n.toNat d)) (t.drop i) (foldV d f (t.take i))
  rw [l, ← e] at p
  exact p
/-- each row's numbers are of rows ahead of it -/
def TrIdx (t : Tr) : Prop := ∀ (i : Nat) (r : Str × List Int), t[i]? = some r → r.2.length ≤ 2 ∧ ∀ n ∈ r.2, 0 ≤ n ∧ n < (i : Int)
theorem foldV_at (ok : TrIdx t) {i : Nat} {r : Str × List Int} (h : t[i]? = some r) : (foldV d f t)[i]? = some (f r.1 (r.2.map fun n => (foldV d f t).getD n.toNat d)) := by
  have li := (List.getElem?_eq_some_iff.1 h).1
  have p := foldV_pre (d := d) (f := f) (i + 1) (Nat.succ_le_of_lt li)
  rw [take_at h, foldV_snoc] at p
  have l : (foldV d f (t.take i)).length = i := by rw [foldV_len, List.length_take]; omega
  have q : (foldV d f t)[i]? = ((foldV d f t).take (i + 1))[i]? := by rw [List.getElem?_take, if_pos (Nat.lt_succ_self i)]
  rw [q, p, List.getElem?_append_right (by omega), l, Nat.sub_self]
  show some _ = some _
  congr 2
  refine List.map_congr_left fun n hn => ?_
  have := (ok i r h).2 n hn
  rw [List.getD_eq_getElem?_getD, List.getD_eq_getElem?_getD, ← foldV_pre i (Nat.le_of_lt li), List.getElem?_take, if_pos (by omega)]
theorem foldV_app (ok : TrIdx t) (r : Str × List Int) {i : Nat} (h : i < t.length) : (foldV d f (t ++ [r]))[i]? = (foldV d f t)[i]? := by
  rw [foldV_snoc, List.getElem?_append_left (by rw [foldV_len]; exact h)]
end
theorem TrIdx.take {t : Tr} (ok : TrIdx t) (i : Nat) : TrIdx (t.take i) := fun j r h => by
  rw [List.getElem?_take] at h
  split at h
  · exact ok j r h
  · cases h
theorem TrIdx.snoc {t : Tr} (ok : TrIdx t) {r : Str × List Int} (h2 : r.2.length ≤ 2) (h : ∀ n ∈ r.2, 0 ≤ n ∧ n < (t.length : Int)) : TrIdx (t ++ [r]) := fun j q hq => by
  by_cases c : j < t.length
  · rw [List.getElem?_append_left c] at hq
    exact ok j q hq
  · rw [List.getElem?_append_right (by omega)] at hq
    have ej : j = t.length := by
      have := (List.getElem?_eq_some_iff.1 hq).1
      rw [List.length_singleton] at this
      omega
    subst ej
    rw [Nat.sub_self] at hq
    cases hq
    exact ⟨h2, h⟩
/-! ### sizes -/
def szf : Str → List Int → Int := fun _ ps => 1 + ps.sum
def szT (t : Tr) (a : Nat) : Int := (foldV 0 szf t).getD a 0
theorem szT_at {t : Tr} (ok : TrIdx t) {a : Nat} {r : Str × List Int} (h : t[a]? = some r) : szT t a = 1 + (r.2.map fun n => szT t n.toNat).sum := by
  unfold szT
  rw [List.getD_eq_getElem?_getD, foldV_at ok h]
  rfl
theorem sz_pos {t : Tr} (ok : TrIdx t) : ∀ (k a : Nat), a < k → a < t.length → 1 ≤ szT t a
  | 0, a, h, _ => absurd h (Nat.not_lt_zero _)
  | k + 1, a, h, hl => by
    have e := List.getElem?_eq_getElem hl
    rw [szT_at ok e]
    have := sum_nonneg (l := t[a].2.map fun n => szT t n.toNat) fun x hx => by
      obtain ⟨n, hn, rfl⟩ := List.mem_map.1 hx
      have z := (ok a _ e).2 n hn
      have := sz_pos ok k n.toNat (by omega) (by omega)
      omega
    omega
theorem sz_pos' {t : Tr} (ok : TrIdx t) {a : Nat} (h : a < t.length) : 1 ≤ szT t a := sz_pos ok (a + 1) a (Nat.lt_succ_self a) h
theorem mem_le_sumI : ∀ {l : List Int} {x : Int}, (∀ y ∈ l, 0 ≤ y) → x ∈ l → x ≤ l.sum
  | [], x, _, h => nomatch h
  | a :: l, x, hl, h => by
    rw [List.sum_cons]
    have a0 := hl a List.mem_cons_self
    have s0 := sum_nonneg (l := l) fun y hy => hl y (List.mem_cons_of_mem _ hy)
    rcases List.mem_cons.1 h with rfl | h
    · omega
    · have := mem_le_sumI (l := l) (fun y hy => hl y (List.mem_cons_of_mem _ hy)) h
      omega
theorem sz_part {t : Tr} (ok : TrIdx t) {a : Nat} {r : Str × List Int} (h : t[a]? = some r) {n : Int} (hn : n ∈ r.2) : szT t n.toNat < szT t a := by
  rw [szT_at ok h]
  have la := (List.getElem?_eq_some_iff.1 h).1
  have := mem_le_sumI (l := r.2.map fun n => szT t n.toNat) (x := szT t n.toNat) (fun y hy => by
    obtain ⟨m, hm, rfl⟩ := List.mem_map.1 hy
    have z := (ok a _ h).2 m hm
    have := sz_pos' ok (a := m.toNat) (by omega)
    omega) (List.mem_map.2 ⟨n, hn, rfl⟩)
  omega
/-! ### the plain tree -/
structure PlSt where
  left : List (Nat × Bool)
  rows : Tr
  own : List (Nat × Nat)
def ownAt (own : List (Nat × Nat)) (n : Nat) : Option Nat := (own.find? fun p => decide (p.1 = n)).map (·.2)
def rowAt (t : Tr) (a : Nat) : Str × List Int := t.getD a ("", [])
def markOf (t : Tr) (own : List (Nat × Nat)) (a : Nat) : Mark := ((rowAt t a).1, (rowAt t a).2.map fun n => (((ownAt own n.toNat).getD 0 : Nat) : Int))
def markIx (rows : Tr) (m : Mark) : Option Nat := rows.findIdx? fun r => decide (r = m)
def stepP (t : Tr) : PlSt → PlSt
  | ⟨[], rows, own⟩ => ⟨[], rows, own⟩
  | ⟨(a, b) :: left, rows, own⟩ =>
    if (ownAt own a).isSome = true then ⟨left, rows, own⟩
    else if b = true then
      match markIx rows (markOf t own a) with
      | some k => ⟨left, rows, own ++ [(a, k)]⟩
      | none => ⟨left, rows ++ [markOf t own a], own ++ [(a, rows.length)]⟩
    else ⟨(rowAt t a).2.map (fun n => (n.toNat, false)) ++ (a, true) :: left, rows, own⟩
def startP (t : Tr) : PlSt := ⟨[(t.length - 1, false)], [], []⟩
def runP (t : Tr) : Nat → PlSt
  | 0 => startP t
  | k + 1 => stepP t (runP t k)
theorem ownAt_mem {own : List (Nat × Nat)} {n k : Nat} (h : ownAt own n = some k) : (n, k) ∈ own := by
  unfold ownAt at h
  cases c : own.find? fun p => decide (p.1 = n) with
  | none => rw [c] at h; cases h
  | some p =>
    rw [c] at h
    cases h
    have := List.find?_some c
    have e : p.1 = n := of_decide_eq_true this
    rw [← e]
    exact List.mem_of_find?_eq_some c
theorem ownAt_app {own : List (Nat × Nat)} {a k n : Nat} : ownAt (own ++ [(a, k)]) n = (ownAt own n).or (if a = n then some k else none) := by
  unfold ownAt
  rw [List.find?_append]
  cases own.find? fun p => decide (p.1 = n) with
  | some p => rfl
  | none =>
    by_cases c : a = n
    · simp [List.find?_cons, c]
    · simp [List.find?_cons, c]
theorem ownAt_none {own : List (Nat × Nat)} {n : Nat} (h : ownAt own n = none) : n ∉ own.map (·.1) := fun hm => by
  obtain ⟨p, hp, rfl⟩ := List.mem_map.1 hm
  unfold ownAt at h
  rw [Option.map_eq_none_iff, List.find?_eq_none] at h
  exact h p hp (decide_eq_true rfl)
theorem rowAt_eq {t : Tr} {a : Nat} {r : Str × List Int} (h : t[a]? = some r) : rowAt t a = r := by
  unfold rowAt
  rw [List.getD_eq_getElem?_getD, h]
  rfl
theorem markIx_some {rows : Tr} {m : Mark} {k : Nat} (h : markIx rows m = some k) : rows[k]? = some m := by
  unfold markIx at h
  obtain ⟨h1, h2, _⟩ := List.findIdx?_eq_some_iff_getElem.1 h
  rw [List.getElem?_eq_getElem h1, of_decide_eq_true h2]
theorem markIx_none {rows : Tr} {m : Mark} (h : markIx rows m = none) : m ∉ rows := fun hm => by
  unfold markIx at h
  rw [List.findIdx?_eq_none_iff] at h
  have := h m hm
  simp at this
structure PInv (t : Tr) (s : PlSt) : Prop where
  stk : ∀ p ∈ s.left, p.1 < t.length
  ord : s.left.Pairwise fun p q => q.2 = true → p.1 < q.1
  part : ∀ (above below : List (Nat × Bool)) (a : Nat), s.left = above ++ (a, true) :: below → ∀ n ∈ (rowAt t a).2, (ownAt s.own n.toNat).isSome = true ∨ ∃ b, (n.toNat, b) ∈ above
  ownl : ∀ p ∈ s.own, p.1 < t.length ∧ p.2 < s.rows.length
  ownd : (s.own.map (·.1)).Nodup
  few : s.rows.length ≤ s.own.length
  nd : s.rows.Nodup
  idx : TrIdx s.rows
  name : ∀ p ∈ s.own, (rowAt s.rows p.2).1 = (rowAt t p.1).1
  same : ∀ p ∈ s.own, ∀ (β : Type) (d : β) (f : Str → List β → β), (foldV d f s.rows)[p.2]? = (foldV d f t)[p.1]?
  rowl : ∀ (k : Nat) (r : Str × List Int), s.rows[k]? = some r → ∃ a, a < t.length ∧ r.1 = (rowAt t a).1 ∧ r.2.length = (rowAt t a).2.length ∧ ∀ (j : Nat) (n m : Int), r.2[j]? = some n → (rowAt t a).2[j]? = some m → 0 ≤ m ∧ m.toNat < a ∧ 0 ≤ n ∧ n.toNat < k ∧ (rowAt s.rows n.toNat).1 = (rowAt t m.toNat).1
  base : (∃ pre b, s.left = pre ++ [(t.length - 1, b)] ∧ (∀ p ∈ pre, szT t p.1 < szT t (t.length - 1)) ∧ (∀ k, k < s.rows.length → szT s.rows k < szT t (t.length - 1)) ∧ ownAt s.own (t.length - 1) = none) ∨ (s.left = [] ∧ ∃ k, ownAt s.own (t.length - 1) = some k ∧ k + 1 = s.rows.length)
def cntP (t : Tr) (left : List (Nat × Bool)) (own : List (Nat × Nat)) : Nat := (List.range t.length).countP fun a => (ownAt own a).isNone && !decide ((a, true) ∈ left)
def measP (t : Tr) (s : PlSt) : Nat := s.left.length + 4 * cntP t s.left s.own
theorem PInv.start {t : Tr} (h : 0 < t.length) : PInv t (startP t) := by
  refine ⟨fun p hp => ?_, List.pairwise_singleton _ _, fun above below a e => ?_, fun p z => (nomatch z), List.nodup_nil, Nat.le_refl _, List.nodup_nil, fun i r z => by simp [startP] at z, fun p z => (nomatch z), fun p z => (nomatch z), fun k r z => by simp [startP] at z, .inl ⟨[], false, rfl, fun p z => (nomatch z), fun k z => absurd z (Nat.not_lt_zero _), rfl⟩⟩
  · rw [List.mem_singleton.1 hp]
    show t.length - 1 < t.length
    omega
  · exfalso
    have : (a, true) ∈ (startP t).left := by rw [e]; exact List.mem_append_right _ List.mem_cons_self
    have z := List.mem_singleton.1 this
    cases z
theorem countP_lt {α : Type} {p q : α → Bool} : ∀ {l : List α} {a : α}, (∀ x, q x = true → p x = true) → a ∈ l → p a = true → q a = false → l.countP q < l.countP p
  | [], a, _, h, _, _ => nomatch h
  | x :: l, a, hx, h, h1, h2 => by
    rw [List.countP_cons, List.countP_cons]
    have le : l.countP q ≤ l.countP p := List.countP_mono_left fun y _ => hx y
    rcases List.mem_cons.1 h with rfl | h
    · rw [if_pos h1, if_neg (by rw [h2]; exact Bool.false_ne_true)]
      omega
    · have := countP_lt (l := l) hx h h1 h2
      by_cases c : q x = true
      · rw [if_pos c, if_pos (hx x c)]
        omega
      · rw [if_neg c]
        omega
theorem getD_snoc {α : Type} {l : List α} {x d : α} {k : Nat} (h : k < l.length) : (l ++ [x]).getD k d = l.getD k d := by
  rw [List.getD_eq_getElem?_getD, List.getD_eq_getElem?_getD, List.getElem?_append_left h]
theorem getD_last {α : Type} {l : List α} {x d : α} : (l ++ [x]).getD l.length d = x := by
  rw [List.getD_eq_getElem?_getD, List.getElem?_append_right (Nat.le_refl _), Nat.sub_self]
  rfl
theorem cons_app {α : Type} {x y : α} {l pre : List α} (h : x :: l = pre ++ [y]) : (pre = [] ∧ x = y ∧ l = []) ∨ ∃ pre', pre = x :: pre' ∧ l = pre' ++ [y] := by
  cases pre with
  | nil =>
    rw [List.nil_append] at h
    injection h with h1 h2
    exact .inl ⟨rfl, h1, h2⟩
  | cons z pre =>
    rw [List.cons_append] at h
    injection h with h1 h2
    exact .inr ⟨pre, by rw [h1], h2⟩
theorem meas_le {t : Tr} {left left' : List (Nat × Bool)} {rows rows' : Tr} {own own' : List (Nat × Nat)} {c : Nat × Bool} (hl : left = c :: left') (h : ∀ x, ownAt own' x = none → (x, true) ∉ left' → ownAt own x = none ∧ (x, true) ∉ left) : measP t ⟨left', rows', own'⟩ < measP t ⟨left, rows, own⟩ := by
  have : cntP t left' own' ≤ cntP t left own := List.countP_mono_left fun x _ hx => by
    simp only [Bool.and_eq_true, Option.isNone_iff_eq_none, Bool.not_eq_true', decide_eq_false_iff_not] at hx ⊢
    exact h x hx.1 hx.2
  show left'.length + 4 * cntP t left' own' < left.length + 4 * cntP t left own
  have e : left.length = left'.length + 1 := by rw [hl, List.length_cons]
  omega
theorem PInv.step {t : Tr} (ok : TrIdx t) {s : PlSt} (h : PInv t s) (hl : s.left ≠ []) : PInv t (stepP t s) ∧ measP t (stepP t s) < measP t s := by
  obtain ⟨left0, rows, own⟩ := s
  cases left0 with
  | nil => exact absurd rfl hl
  | cons p left =>
  obtain ⟨a, b⟩ := p
  have la : a < t.length := h.stk (a, b) List.mem_cons_self
  have er0 := List.getElem?_eq_getElem la
  obtain ⟨r, er⟩ : ∃ r, t[a]? = some r := ⟨_, er0⟩
  clear er0
  have ra := rowAt_eq er
  have rix := ok a r er
  have hbase := h.base.resolve_right fun z => nomatch z.1
  obtain ⟨pre, b', ebase, hpre, hsz, hroot⟩ := hbase
  replace ebase : (a, b) :: left = pre ++ [(t.length - 1, b')] := ebase
  replace hroot : ownAt own (t.length - 1) = none := hroot
  have ordt := List.pairwise_cons.1 h.ord
  by_cases c1 : (ownAt own a).isSome = true
  · -- it is there
    have es : stepP t ⟨(a, b) :: left, rows, own⟩ = ⟨left, rows, own⟩ := by
      show (if (ownAt own a).isSome = true then _ else _) = _
      rw [if_pos c1]
    rw [es]
    refine ⟨⟨fun p hp => h.stk p (List.mem_cons_of_mem _ hp), ordt.2, fun above below x e n hn => ?_, h.ownl, h.ownd, h.few, h.nd, h.idx, h.name, h.same, h.rowl, ?_⟩, meas_le rfl fun x h1 h2 => ⟨h1, fun z => ?_⟩⟩
    · replace e : left = above ++ (x, true) :: below := e
      rcases h.part ((a, b) :: above) below x (by show (a, b) :: left = _; rw [e]; rfl) n hn with z | ⟨b2, z⟩
      · exact .inl z
      · rcases List.mem_cons.1 z with z | z
        · have : n.toNat = a := congrArg Prod.fst z
          exact .inl (by rw [this]; exact c1)
        · exact .inr ⟨b2, z⟩
    · rcases cons_app ebase with ⟨_, e, _⟩ | ⟨pre', rfl, e⟩
      · have : a = t.length - 1 := congrArg Prod.fst e
        rw [this, hroot] at c1
        cases c1
      · exact .inl ⟨pre', b', e, fun p hp => hpre p (List.mem_cons_of_mem _ hp), hsz, hroot⟩
    · rcases List.mem_cons.1 z with z | z
      · have : x = a := congrArg Prod.fst z
        rw [this] at h1
        rw [h1] at c1
        cases c1
      · exact h2 z
  have own0 : ownAt own a = none := by
    cases c : ownAt own a with
    | none => rfl
    | some k => rw [c] at c1; exact absurd rfl c1
  cases b with
  | false =>
    -- its parts first
    have es : stepP t ⟨(a, false) :: left, rows, own⟩ = ⟨r.2.map (fun n => (n.toNat, false)) ++ (a, true) :: left, rows, own⟩ := by
      show (if (ownAt own a).isSome = true then _ else if false = true then _ else _) = _
      rw [if_neg c1, if_neg Bool.false_ne_true, ra]
    rw [es]
    have pin : ∀ p ∈ r.2.map (fun n : Int => (n.toNat, false)), p.2 = false ∧ p.1 < a ∧ szT t p.1 < szT t a := fun p hp => by
      obtain ⟨n, hn, rfl⟩ := List.mem_map.1 hp
      have := rix.2 n hn
      exact ⟨rfl, show n.toNat < a by omega, sz_part ok er hn⟩
    refine ⟨⟨fun p hp => ?_, ?_, fun above below x e n hn => ?_, h.ownl, h.ownd, h.few, h.nd, h.idx, h.name, h.same, h.rowl, ?_⟩, ?_⟩
    · rcases List.mem_append.1 hp with hp | hp
      · have := (pin p hp).2.1
        omega
      · rcases List.mem_cons.1 hp with rfl | hp
        · exact la
        · exact h.stk p (List.mem_cons_of_mem _ hp)
    · refine List.pairwise_append.2 ⟨?_, List.pairwise_cons.2 ⟨fun q hq hq2 => ordt.1 q hq hq2, ordt.2⟩, fun p hp q hq hq2 => ?_⟩
      · refine List.Pairwise.imp_of_mem (R := fun _ _ => True) (fun {p q} _ hq _ hq2 => ?_) (List.pairwise_of_forall_mem_list fun _ _ _ _ => trivial)
        rw [(pin q hq).1] at hq2
        cases hq2
      · have := (pin p hp).2.1
        rcases List.mem_cons.1 hq with rfl | hq
        · exact this
        · have := ordt.1 q hq hq2
          replace this : a < q.1 := this
          omega
    · replace e : r.2.map (fun n => (n.toNat, false)) ++ (a, true) :: left = above ++ (x, true) :: below := e
      have first : ∀ c' : List (Nat × Bool), above = r.2.map (fun n => (n.toNat, false)) ++ c' → (a, true) :: left = c' ++ (x, true) :: below → (ownAt own n.toNat).isSome = true ∨ ∃ b, (n.toNat, b) ∈ above := by
        intro c' ea e2
        cases c' with
        | nil =>
          rw [List.nil_append] at e2
          injection e2 with e2 _
          have : a = x := congrArg Prod.fst e2
          subst this
          rw [ra] at hn
          exact .inr ⟨false, by rw [ea, List.append_nil]; exact List.mem_map.2 ⟨n, hn, rfl⟩⟩
        | cons q c' =>
          rw [List.cons_append] at e2
          injection e2 with e2 e3
          rcases h.part ((a, false) :: c') below x (by show (a, false) :: left = _; rw [e3]; rfl) n hn with z | ⟨b2, z⟩
          · exact .inl z
          · rcases List.mem_cons.1 z with z | z
            · have : n.toNat = a := congrArg Prod.fst z
              exact .inr ⟨true, by rw [ea, this, ← e2]; exact List.mem_append_right _ List.mem_cons_self⟩
            · exact .inr ⟨b2, by rw [ea]; exact List.mem_append_right _ (List.mem_cons_of_mem _ z)⟩
      rcases List.append_eq_append_iff.1 e with ⟨c', e1, e2⟩ | ⟨c', e1, e2⟩
      · exact first c' e1 e2
      · cases c' with
        | nil =>
          rw [List.append_nil] at e1
          rw [List.nil_append] at e2
          exact first [] (by rw [e1, List.append_nil]) (by rw [List.nil_append]; exact e2.symm)
        | cons q c' =>
          rw [List.cons_append] at e2
          injection e2 with e2 _
          have := (pin q (by rw [e1]; exact List.mem_append_right _ List.mem_cons_self)).1
          rw [← e2] at this
          cases this
    · rcases cons_app ebase with ⟨_, e, e2⟩ | ⟨pre', rfl, e⟩
      · have ea : a = t.length - 1 := congrArg Prod.fst e
        refine .inl ⟨r.2.map (fun n => (n.toNat, false)), true, ?_, fun p hp => ?_, hsz, hroot⟩
        · show _ ++ (a, true) :: left = _
          rw [e2, ea]
        · rw [← ea]
          exact (pin p hp).2.2
      · have sa := hpre (a, false) List.mem_cons_self
        refine .inl ⟨r.2.map (fun n => (n.toNat, false)) ++ (a, true) :: pre', b', ?_, fun p hp => ?_, hsz, hroot⟩
        · show _ ++ (a, true) :: left = _
          rw [e, List.append_assoc]
          rfl
        · rcases List.mem_append.1 hp with hp | hp
          · exact Int.lt_trans (pin p hp).2.2 sa
          · rcases List.mem_cons.1 hp with rfl | hp
            · exact sa
            · exact hpre p (List.mem_cons_of_mem _ hp)
    · have lp : (r.2.map (fun n : Int => (n.toNat, false))).length ≤ 2 := by rw [List.length_map]; exact rix.1
      have : cntP t (r.2.map (fun n : Int => (n.toNat, false)) ++ (a, true) :: left) own < cntP t ((a, false) :: left) own := countP_lt (l := List.range t.length) (a := a) (p := fun x => (ownAt own x).isNone && !decide ((x, true) ∈ (a, false) :: left)) (q := fun x => (ownAt own x).isNone && !decide ((x, true) ∈ r.2.map (fun n : Int => (n.toNat, false)) ++ (a, true) :: left)) (fun x hx => by
        simp only [Bool.and_eq_true, Option.isNone_iff_eq_none, Bool.not_eq_true', decide_eq_false_iff_not] at hx ⊢
        refine ⟨hx.1, fun z => hx.2 (List.mem_append_right _ (List.mem_cons_of_mem _ ?_))⟩
        rcases List.mem_cons.1 z with z | z
        · cases z
        · exact z) (List.mem_range.2 la) (by
        simp only [Bool.and_eq_true, Option.isNone_iff_eq_none, Bool.not_eq_true', decide_eq_false_iff_not]
        refine ⟨own0, fun z => ?_⟩
        rcases List.mem_cons.1 z with z | z
        · cases z
        · exact Nat.lt_irrefl _ (ordt.1 (a, true) z rfl)) (by
        have : decide ((a, true) ∈ r.2.map (fun n : Int => (n.toNat, false)) ++ (a, true) :: left) = true := decide_eq_true (List.mem_append_right _ List.mem_cons_self)
        simp only [this, Bool.not_true, Bool.and_false])
      show (r.2.map (fun n : Int => (n.toNat, false)) ++ (a, true) :: left).length + 4 * cntP t (r.2.map (fun n : Int => (n.toNat, false)) ++ (a, true) :: left) own < ((a, false) :: left).length + 4 * cntP t ((a, false) :: left) own
      rw [List.length_append, List.length_cons, List.length_cons]
      omega
  | true =>
    have hparts : ∀ n ∈ r.2, ∃ k, ownAt own n.toNat = some k ∧ (n.toNat, k) ∈ own ∧ k < rows.length := fun n hn => by
      rcases h.part [] left a rfl n (by rw [ra]; exact hn) with z | ⟨_, z⟩
      · obtain ⟨k, hk⟩ := Option.isSome_iff_exists.1 z
        exact ⟨k, hk, ownAt_mem hk, (h.ownl _ (ownAt_mem hk)).2⟩
      · cases z
    obtain ⟨m, em⟩ : ∃ m, m = markOf t own a := ⟨_, rfl⟩
    have em2 : m = (r.1, r.2.map fun n => (((ownAt own n.toNat).getD 0 : Nat) : Int)) := by rw [em]; unfold markOf; rw [ra]
    have hval : ∀ (β : Type) (d : β) (f : Str → List β → β), f m.1 (m.2.map fun n => (foldV d f rows).getD n.toNat d) = f r.1 (r.2.map fun n => (foldV d f t).getD n.toNat d) := fun β d f => by
      rw [em2]
      show f r.1 ((r.2.map fun n => (((ownAt own n.toNat).getD 0 : Nat) : Int)).map fun n => (foldV d f rows).getD n.toNat d) = _
      rw [List.map_map]
      congr 1
      refine List.map_congr_left fun n hn => ?_
      obtain ⟨k, hk, hm, _⟩ := hparts n hn
      show (foldV d f rows).getD (((ownAt own n.toNat).getD 0 : Nat) : Int).toNat d = _
      rw [hk, Option.getD_some, Int.toNat_natCast, List.getD_eq_getElem?_getD, List.getD_eq_getElem?_getD, h.same _ hm β d f]
    have mlen : m.2.length ≤ 2 := by rw [em2]; show (r.2.map _).length ≤ 2; rw [List.length_map]; exact rix.1
    have mrow : ∀ (j : Nat) (n q : Int), m.2[j]? = some n → r.2[j]? = some q → 0 ≤ q ∧ q.toNat < a ∧ 0 ≤ n ∧ n.toNat < rows.length ∧ (rowAt rows n.toNat).1 = (rowAt t q.toNat).1 := fun j n q hn hq => by
      rw [em2] at hn
      rw [List.getElem?_map, hq] at hn
      cases hn
      obtain ⟨k, hk, hm, hkl⟩ := hparts q (List.mem_of_getElem? hq)
      have := rix.2 q (List.mem_of_getElem? hq)
      show 0 ≤ q ∧ q.toNat < a ∧ (0 : Int) ≤ (((ownAt own q.toNat).getD 0 : Nat) : Int) ∧ (((ownAt own q.toNat).getD 0 : Nat) : Int).toNat < rows.length ∧ (rowAt rows (((ownAt own q.toNat).getD 0 : Nat) : Int).toNat).1 = (rowAt t q.toNat).1
      rw [hk, Option.getD_some, Int.toNat_natCast]
      exact ⟨this.1, by omega, Int.natCast_nonneg _, hkl, h.name _ hm⟩
    have mnum : ∀ n ∈ m.2, 0 ≤ n ∧ n < (rows.length : Int) := fun n hn => by
      obtain ⟨j, hj⟩ := List.mem_iff_getElem?.1 hn
      have lj := (List.getElem?_eq_some_iff.1 hj).1
      have l2 : j < r.2.length := by rw [em2] at lj; rw [List.length_map] at lj; exact lj
      have := mrow j n _ hj (List.getElem?_eq_getElem l2)
      omega
    have vt : ∀ (β : Type) (d : β) (f : Str → List β → β), (foldV d f t)[a]? = some (f m.1 (m.2.map fun n => (foldV d f rows).getD n.toNat d)) := fun β d f => by rw [hval β d f, foldV_at ok er]
    have newown : ∀ {k : Nat} (x : Nat), ownAt (own ++ [(a, k)]) x = none → ownAt own x = none ∧ x ≠ a := fun {k} x hx => by
      rw [ownAt_app] at hx
      cases c : ownAt own x with
      | some y => rw [c] at hx; cases hx
      | none =>
        rw [c] at hx
        refine ⟨rfl, fun z => ?_⟩
        rw [if_pos z.symm] at hx
        cases hx
    have stillown : ∀ {k : Nat} (x : Nat), (ownAt own x).isSome = true ∨ x = a → (ownAt (own ++ [(a, k)]) x).isSome = true := fun {k} x hx => by
      rw [ownAt_app]
      rcases hx with hx | rfl
      · obtain ⟨y, hy⟩ := Option.isSome_iff_exists.1 hx
        rw [hy]
        rfl
      · rw [own0, if_pos rfl]
        rfl
    have part' : ∀ {k : Nat} (above below : List (Nat × Bool)) (x : Nat), left = above ++ (x, true) :: below → ∀ n ∈ (rowAt t x).2, (ownAt (own ++ [(a, k)]) n.toNat).isSome = true ∨ ∃ b, (n.toNat, b) ∈ above := fun {k} above below x e n hn => by
      rcases h.part ((a, true) :: above) below x (by show (a, true) :: left = _; rw [e]; rfl) n hn with z | ⟨b2, z⟩
      · exact .inl (stillown _ (.inl z))
      · rcases List.mem_cons.1 z with z | z
        · exact .inl (stillown _ (.inr (congrArg Prod.fst z)))
        · exact .inr ⟨b2, z⟩
    have ownd' : ∀ {k : Nat}, ((own ++ [(a, k)]).map (·.1)).Nodup := fun {k} => by
      rw [List.map_append]
      refine List.nodup_append.2 ⟨h.ownd, List.nodup_cons.2 ⟨fun z => (nomatch z), List.nodup_nil⟩, fun x hx y hy => ?_⟩
      rw [List.mem_singleton.1 hy]
      intro z
      rw [z] at hx
      exact ownAt_none own0 hx
    have less : ∀ {rows' : Tr} {k : Nat}, measP t ⟨left, rows', own ++ [(a, k)]⟩ < measP t ⟨(a, true) :: left, rows, own⟩ := fun {rows' k} => meas_le rfl fun x h1 h2 => by
      obtain ⟨h3, h4⟩ := newown x h1
      refine ⟨h3, fun z => ?_⟩
      rcases List.mem_cons.1 z with z | z
      · exact h4 (congrArg Prod.fst z)
      · exact h2 z
    cases cm : markIx rows m with
    | some k =>
      have es : stepP t ⟨(a, true) :: left, rows, own⟩ = ⟨left, rows, own ++ [(a, k)]⟩ := by
        show (if (ownAt own a).isSome = true then _ else if true = true then _ else _) = _
        rw [if_neg c1, if_pos rfl, ← em, cm]
      rw [es]
      have hk := markIx_some cm
      have lk := (List.getElem?_eq_some_iff.1 hk).1
      refine ⟨⟨fun p hp => h.stk p (List.mem_cons_of_mem _ hp), ordt.2, part', fun p hp => ?_, ownd', by show rows.length ≤ (own ++ [(a, k)]).length; have := h.few; rw [List.length_append]; replace this : rows.length ≤ own.length := this; omega, h.nd, h.idx, fun p hp => ?_, fun p hp β d f => ?_, h.rowl, ?_⟩, less⟩
      · rcases List.mem_append.1 hp with hp | hp
        · exact h.ownl p hp
        · rw [List.mem_singleton.1 hp]
          exact ⟨la, lk⟩
      · rcases List.mem_append.1 hp with hp | hp
        · exact h.name p hp
        · rw [List.mem_singleton.1 hp]
          show (rowAt rows k).1 = (rowAt t a).1
          rw [rowAt_eq hk, ra, em2]
      · rcases List.mem_append.1 hp with hp | hp
        · exact h.same p hp β d f
        · rw [List.mem_singleton.1 hp]
          show (foldV d f rows)[k]? = (foldV d f t)[a]?
          rw [vt, foldV_at h.idx hk]
      · have sk : szT rows k = szT t a := by
          unfold szT
          rw [List.getD_eq_getElem?_getD, List.getD_eq_getElem?_getD, vt, foldV_at h.idx hk]
        rcases cons_app ebase with ⟨_, e, e2⟩ | ⟨pre', rfl, e⟩
        · exfalso
          have ea : a = t.length - 1 := congrArg Prod.fst e
          have := hsz k lk
          replace this : szT rows k < szT t (t.length - 1) := this
          rw [sk, ea] at this
          exact Int.lt_irrefl _ this
        · have sa := hpre (a, true) List.mem_cons_self
          refine .inl ⟨pre', b', e, fun p hp => hpre p (List.mem_cons_of_mem _ hp), hsz, ?_⟩
          show ownAt (own ++ [(a, k)]) (t.length - 1) = none
          rw [ownAt_app, hroot, if_neg fun z => ?_]
          · rfl
          · rw [z] at sa
            exact Int.lt_irrefl _ sa
    | none =>
      have es : stepP t ⟨(a, true) :: left, rows, own⟩ = ⟨left, rows ++ [m], own ++ [(a, rows.length)]⟩ := by
        show (if (ownAt own a).isSome = true then _ else if true = true then _ else _) = _
        rw [if_neg c1, if_pos rfl, ← em, cm]
      rw [es]
      have hm := markIx_none cm
      have rold : ∀ k, k < rows.length → rowAt (rows ++ [m]) k = rowAt rows k := fun k hk => getD_snoc hk
      have rnew : rowAt (rows ++ [m]) rows.length = m := getD_last
      have vnew : ∀ (β : Type) (d : β) (f : Str → List β → β), (foldV d f (rows ++ [m]))[rows.length]? = (foldV d f t)[a]? := fun β d f => by
        rw [vt, foldV_snoc, List.getElem?_append_right (by rw [foldV_len]; exact Nat.le_refl _), foldV_len, Nat.sub_self]
        rfl
      refine ⟨⟨fun p hp => h.stk p (List.mem_cons_of_mem _ hp), ordt.2, part', fun p hp => ?_, ownd', by show (rows ++ [m]).length ≤ (own ++ [(a, rows.length)]).length; have := h.few; replace this : rows.length ≤ own.length := this; rw [List.length_append, List.length_append]; simp; omega, ?_, h.idx.snoc mlen mnum, fun p hp => ?_, fun p hp β d f => ?_, fun k q hq => ?_, ?_⟩, less⟩
      · show p.1 < t.length ∧ p.2 < (rows ++ [m]).length
        rw [List.length_append, List.length_singleton]
        rcases List.mem_append.1 hp with hp | hp
        · have := h.ownl p hp
          replace this : p.1 < t.length ∧ p.2 < rows.length := this
          exact ⟨this.1, by omega⟩
        · rw [List.mem_singleton.1 hp]
          exact ⟨la, Nat.lt_succ_self _⟩
      · refine List.nodup_append.2 ⟨h.nd, List.nodup_cons.2 ⟨fun z => (nomatch z), List.nodup_nil⟩, fun x hx y hy => ?_⟩
        rw [List.mem_singleton.1 hy]
        intro z
        rw [z] at hx
        exact hm hx
      · show (rowAt (rows ++ [m]) p.2).1 = _
        rcases List.mem_append.1 hp with hp | hp
        · rw [rold _ (h.ownl p hp).2]
          exact h.name p hp
        · rw [List.mem_singleton.1 hp]
          show (rowAt (rows ++ [m]) rows.length).1 = (rowAt t a).1
          rw [rnew, ra, em2]
      · show (foldV d f (rows ++ [m]))[p.2]? = _
        rcases List.mem_append.1 hp with hp | hp
        · rw [foldV_app h.idx m (h.ownl p hp).2]
          exact h.same p hp β d f
        · rw [List.mem_singleton.1 hp]
          exact vnew β d f
      · replace hq : (rows ++ [m])[k]? = some q := hq
        show ∃ a, a < t.length ∧ q.1 = (rowAt t a).1 ∧ q.2.length = (rowAt t a).2.length ∧ ∀ (j : Nat) (n m' : Int), q.2[j]? = some n → (rowAt t a).2[j]? = some m' → 0 ≤ m' ∧ m'.toNat < a ∧ 0 ≤ n ∧ n.toNat < k ∧ (rowAt (rows ++ [m]) n.toNat).1 = (rowAt t m'.toNat).1
        by_cases c : k < rows.length
        · rw [List.getElem?_append_left c] at hq
          obtain ⟨x, x1, x2, x3, x4⟩ := h.rowl k q hq
          refine ⟨x, x1, x2, x3, fun j n m' hn hm' => ?_⟩
          obtain ⟨y1, y2, y3, y4, y5⟩ := x4 j n m' hn hm'
          exact ⟨y1, y2, y3, y4, by rw [rold _ (by omega)]; exact y5⟩
        · rw [List.getElem?_append_right (by omega)] at hq
          have ek : k = rows.length := by
            have := (List.getElem?_eq_some_iff.1 hq).1
            rw [List.length_singleton] at this
            omega
          subst ek
          rw [Nat.sub_self] at hq
          cases hq
          refine ⟨a, la, by rw [ra, em2], by rw [ra, em2, List.length_map], fun j n m' hn hm' => ?_⟩
          rw [ra] at hm'
          obtain ⟨y1, y2, y3, y4, y5⟩ := mrow j n m' hn hm'
          exact ⟨y1, y2, y3, y4, by rw [rold _ y4]; exact y5⟩
      · rcases cons_app ebase with ⟨_, e, e2⟩ | ⟨pre', rfl, e⟩
        · have ea : a = t.length - 1 := congrArg Prod.fst e
          refine .inr ⟨e2, rows.length, ?_, ?_⟩
          · show ownAt (own ++ [(a, rows.length)]) (t.length - 1) = _
            rw [ownAt_app, hroot, if_pos ea]
            rfl
          · show _ = (rows ++ [m]).length
            rw [List.length_append, List.length_singleton]
        · have sa := hpre (a, true) List.mem_cons_self
          refine .inl ⟨pre', b', e, fun p hp => hpre p (List.mem_cons_of_mem _ hp), fun k hk => ?_, ?_⟩
          · replace hk : k < (rows ++ [m]).length := hk
            show szT (rows ++ [m]) k < _
            rw [List.length_append, List.length_singleton] at hk
            by_cases c : k < rows.length
            · have : szT (rows ++ [m]) k = szT rows k := by
                unfold szT
                rw [List.getD_eq_getElem?_getD, List.getD_eq_getElem?_getD, foldV_app h.idx m c]
              rw [this]
              exact hsz k c
            · have ek : k = rows.length := by omega
              subst ek
              have : szT (rows ++ [m]) rows.length = szT t a := by
                unfold szT
                rw [List.getD_eq_getElem?_getD, List.getD_eq_getElem?_getD, vnew]
              rw [this]
              exact sa
          · show ownAt (own ++ [(a, rows.length)]) (t.length - 1) = none
            rw [ownAt_app, hroot, if_neg fun z => ?_]
            · rfl
            · rw [z] at sa
              exact Int.lt_irrefl _ sa
end Bk
set_option Elab.async false
set_option linter.all false
set_option maxRecDepth 100000
set_option maxHeartbeats 4000000
/-! Bk42: the plain tree's loop on the heap; reversed; dicts by whole numbers. -/
namespace Bk
open PySem PySem.Spec PyProof.Rows L2
/-! ### dicts by whole numbers -/
/-! ### reversed(tuple) -/
/-! ### the plain tree's loop -/
/-- (a row's number, is it done) on a pile, its top last -/
def LfAt (H : Hp) : List (Nat × Bool) → List V → Prop
  | [], vs => vs = []
  | p :: l, vs => ∃ xs q, vs = xs ++ [.ref q] ∧ H q = some (.tup [.int (p.1 : Nat), .bl p.2]) ∧ LfAt H l xs
theorem LfAt.tk {H H' : Hp} (t : Tk H H') : ∀ {l : List (Nat × Bool)} {vs : List V}, LfAt H l vs → LfAt H' l vs
  | [], _, h => h
  | p :: l, _, ⟨xs, q, e, h1, h2⟩ => ⟨xs, q, e, t _ _ h1, LfAt.tk t h2⟩
theorem LfAt.len {H : Hp} : ∀ {l : List (Nat × Bool)} {vs : List V}, LfAt H l vs → vs.length = l.length
  | [], _, h => by rw [show _ = _ from h]; rfl
  | p :: l, _, ⟨xs, q, e, h1, h2⟩ => by rw [e, List.length_append, LfAt.len h2]; rfl
theorem LfAt.ext {H : Hp} {l : List (Nat × Bool)} {xs : List V} (h : LfAt H l xs) : ∀ {ps : List (Nat × Bool)} {acc : List V}, acc.length = ps.length → (∀ (j : Nat) (v : V), acc[j]? = some v → ∃ q p, v = .ref q ∧ ps[ps.length - 1 - j]? = some p ∧ H q = some (.tup [.int (p.1 : Nat), .bl p.2])) → LfAt H (ps ++ l) (xs ++ acc)
  | [], acc, hl, _ => by
    rw [List.eq_nil_of_length_eq_zero hl, List.append_nil]
    exact h
  | p :: ps, acc, hl, ha => by
    rw [List.length_cons] at hl
    have ne : acc ≠ [] := fun z => by rw [z] at hl; cases hl
    have e := List.dropLast_concat_getLast ne
    have hlast : acc[ps.length]? = some (acc.getLast ne) := by
      rw [List.getLast_eq_getElem, List.getElem?_eq_getElem (by omega)]
      congr 2
      omega
    obtain ⟨q, p', hq, hp, hH⟩ := ha _ _ hlast
    rw [List.length_cons, show ps.length + 1 - 1 - ps.length = 0 by omega] at hp
    cases hp
    refine ⟨xs ++ acc.dropLast, q, ?_, hH, LfAt.ext h (by rw [List.length_dropLast]; omega) fun j v hj => ?_⟩
    · rw [List.append_assoc, ← hq, e]
    · have lj : j < acc.dropLast.length := (List.getElem?_eq_some_iff.1 hj).1
      have ld : acc.dropLast.length = ps.length := by rw [List.length_dropLast]; omega
      have hj2 : acc[j]? = some v := by rw [← e, List.getElem?_append_left lj]; exact hj
      obtain ⟨q2, p2, h1, h2, h3⟩ := ha j v hj2
      refine ⟨q2, p2, h1, ?_, h3⟩
      rw [List.length_cons, show ps.length + 1 - 1 - j = (ps.length - 1 - j) + 1 by omega] at h2
      exact h2
section
variable {t : Tr} {a : Nat} {left : List (Nat × Bool)} {rows : Tr} {own : List (Nat × Nat)}
theorem stepP_there {b : Bool} {k : Nat} (h : ownAt own a = some k) : stepP t ⟨(a, b) :: left, rows, own⟩ = ⟨left, rows, own⟩ := by
  show (if (ownAt own a).isSome = true then _ else _) = _
  exact if_pos (by rw [h]; rfl)
theorem stepP_open (h : ownAt own a = none) : stepP t ⟨(a, false) :: left, rows, own⟩ = ⟨(rowAt t a).2.map (fun n => (n.toNat, false)) ++ (a, true) :: left, rows, own⟩ := by
  show (if (ownAt own a).isSome = true then _ else if false = true then _ else _) = _
  rw [if_neg (by rw [h]; exact Bool.false_ne_true), if_neg Bool.false_ne_true]
theorem stepP_old {k : Nat} (h : ownAt own a = none) (hm : markIx rows (markOf t own a) = some k) : stepP t ⟨(a, true) :: left, rows, own⟩ = ⟨left, rows, own ++ [(a, k)]⟩ := by
  show (if (ownAt own a).isSome = true then _ else if true = true then _ else _) = _
  rw [if_neg (by rw [h]; exact Bool.false_ne_true), if_pos rfl, hm]
theorem stepP_new (h : ownAt own a = none) (hm : markIx rows (markOf t own a) = none) : stepP t ⟨(a, true) :: left, rows, own⟩ = ⟨left, rows ++ [markOf t own a], own ++ [(a, rows.length)]⟩ := by
  show (if (ownAt own a).isSome = true then _ else if true = true then _ else _) = _
  rw [if_neg (by rw [h]; exact Bool.false_ne_true), if_pos rfl, hm]
end
theorem PInv.sizes {t : Tr} {s : PlSt} (h : PInv t s) : s.own.length ≤ t.length ∧ s.rows.length ≤ t.length := by
  have a : s.own.length ≤ t.length := by
    have : (s.own.map (·.1)).length ≤ (List.range t.length).length := List.Nodup.length_le_of_subset h.ownd fun x hx => by
      obtain ⟨p, hp, rfl⟩ := List.mem_map.1 hx
      exact List.mem_range.2 (h.ownl p hp).1
    rw [List.length_map, List.length_range] at this
    exact this
  exact ⟨a, Nat.le_trans h.few a⟩
end Bk
set_option Elab.async false
set_option linter.all false
set_option maxRecDepth 100000
set_option maxHeartbeats 4000000
/-! Bk43: what is printed of a tree. -/
namespace Bk
open PySem PySem.Spec PyProof.Rows L2
/-! ### trees of a wood -/
structure TrW (w : Wd) (t : Tr) : Prop where
  idx : TrIdx t
  row : ∀ (i : Nat) (row : Str × List Int), t[i]? = some row → ∃ j e, PartsAt w ([], []) t i row j e
/-! ### how long the texts are -/
theorem perm_sum {l m : List Nat} (h : l.Perm m) : l.sum = m.sum := by
  induction h with
  | nil => rfl
  | cons x _ ih => rw [List.sum_cons, List.sum_cons, ih]
  | swap x y l => rw [List.sum_cons, List.sum_cons, List.sum_cons, List.sum_cons]; omega
  | trans _ _ a b => rw [a, b]
theorem sub_sum {α : Type} [DecidableEq α] (f : α → Nat) : ∀ (bs L : List α), bs.Nodup → (∀ b ∈ bs, b ∈ L) → (bs.map f).sum ≤ (L.map f).sum
  | [], L, _, _ => Nat.zero_le _
  | b :: bs, L, nd, h => by
    have nd' := List.nodup_cons.1 nd
    have p := List.perm_cons_erase (h b List.mem_cons_self)
    rw [perm_sum (p.map f), List.map_cons, List.map_cons, List.sum_cons, List.sum_cons]
    have := sub_sum f bs (L.erase b) nd'.2 fun c hc => (List.mem_erase_of_ne (fun z => nd'.1 (by rw [← z]; exact hc))).2 (h c (List.mem_cons_of_mem _ hc))
    omega
end Bk
set_option Elab.async false
/-! Bk44: joining sign by sign; the plain tree's printing. -/
namespace Bk
open PySem PySem.Spec PyProof.Rows L2
/-! ### signs of what is printed -/
/-! ### the plain tree's end -/
theorem runP_own {t : Tr} : ∀ (n k : Nat), k < (runP t n).rows.length → ∃ a, (a, k) ∈ (runP t n).own
  | 0, k, h => absurd h (Nat.not_lt_zero _)
  | n + 1, k, h => by
    have ih := runP_own (t := t) n
    have e : runP t (n + 1) = stepP t (runP t n) := rfl
    rw [e] at h ⊢
    generalize runP t n = s at ih h
    obtain ⟨left, rows, own⟩ := s
    cases left with
    | nil => exact ih k h
    | cons p left =>
      obtain ⟨a, b⟩ := p
      cases c : ownAt own a with
      | some kk =>
        rw [stepP_there c] at h ⊢
        exact ih k h
      | none =>
        cases b with
        | false =>
          rw [stepP_open c] at h ⊢
          exact ih k h
        | true =>
          cases cm : markIx rows (markOf t own a) with
          | some q =>
            rw [stepP_old c cm] at h ⊢
            obtain ⟨x, hx⟩ := ih k h
            exact ⟨x, List.mem_append_left _ hx⟩
          | none =>
            rw [stepP_new c cm] at h ⊢
            by_cases ck : k < rows.length
            · obtain ⟨x, hx⟩ := ih k ck
              exact ⟨x, List.mem_append_left _ hx⟩
            · replace h : k < (rows ++ [markOf t own a]).length := h
              rw [List.length_append, List.length_singleton] at h
              have : k = rows.length := by omega
              subst this
              exact ⟨a, List.mem_append_right _ (List.mem_singleton.2 rfl)⟩
structure PlEnd (t r : Tr) : Prop where
  pos : 0 < r.length
  le : r.length ≤ t.length
  idx : TrIdx r
  last : ∀ (β : Type) (d : β) (f : Str → List β → β), (foldV d f r)[r.length - 1]? = (foldV d f t)[t.length - 1]?
  each : ∀ k, k < r.length → ∃ a, a < t.length ∧ ∀ (β : Type) (d : β) (f : Str → List β → β), (foldV d f r)[k]? = (foldV d f t)[a]?
theorem PInv.fin {t : Tr} {n : Nat} (h : PInv t (runP t n)) (hl : (runP t n).left = []) : PlEnd t (runP t n).rows := by
  rcases h.base with ⟨pre, b, e, _⟩ | ⟨_, k, hk, e⟩
  · rw [hl] at e
    cases pre <;> cases e
  · have hm := ownAt_mem hk
    refine ⟨by omega, h.sizes.2, h.idx, fun β d f => ?_, fun j hj => ?_⟩
    · have := h.same _ hm β d f
      rw [← e, Nat.add_sub_cancel]
      exact this
    · obtain ⟨a, ha⟩ := runP_own n j hj
      exact ⟨a, (h.ownl _ ha).1, fun β d f => h.same _ ha β d f⟩
theorem PlEnd.size {t r : Tr} (h : PlEnd t r) {k : Nat} (hk : k < r.length) : ∃ a, a < t.length ∧ szT r k = szT t a := by
  obtain ⟨a, la, e⟩ := h.each k hk
  refine ⟨a, la, ?_⟩
  unfold szT
  rw [List.getD_eq_getElem?_getD, List.getD_eq_getElem?_getD, e]
end Bk
set_option Elab.async false
/-! Bk45: dict(zip(a, b, strict=True)). -/
namespace Bk
open PySem PySem.Spec PyProof.Rows L2
end Bk
set_option Elab.async false
/-! Bk46: slices of tuples from their beginning. -/
namespace Bk
open PySem PySem.Spec PyProof.Rows L2
theorem Reps.take {H : Hp} : ∀ {ds : List D} {vs : List V} (k : Nat), Reps H ds vs → Reps H (ds.take k) (vs.take k)
  | ds, vs, 0, _ => by simp only [List.take_zero, Reps]
  | [], vs, k + 1, h => by
    simp only [Reps] at h
    subst h
    simp only [List.take_nil, Reps]
  | d :: ds, vs, k + 1, h => by
    obtain ⟨v, r, rfl, hv, hr⟩ := h
    exact ⟨v, r.take k, rfl, hv, Reps.take k hr⟩
end Bk
set_option Elab.async false
/-! Bk47: dicts by marks: setdefault, len, list. -/
namespace Bk
open PySem PySem.Spec PyProof.Rows L2
end Bk
set_option Elab.async false
/-! Bk48: the plain tree as a function of the tree alone. -/
namespace Bk
open PySem PySem.Spec PyProof.Rows L2
inductive PT where
  | node (s : Str) (ps : List PT)
instance : Inhabited PT := ⟨.node "" []⟩
mutual
def goT : PT → Tr → Tr × Nat
  | .node s ps, rows =>
    let r := goL ps rows
    match markIx r.1 (s, r.2.map fun n => ((n : Nat) : Int)) with
    | some k => (r.1, k)
    | none => (r.1 ++ [(s, r.2.map fun n => ((n : Nat) : Int))], r.1.length)
def goL : List PT → Tr → Tr × List Nat
  | [], rows => (rows, [])
  | p :: ps, rows =>
    let r := goT p rows
    let r2 := goL ps r.1
    (r2.1, r.2 :: r2.2)
end
def mkI (s : Str) (ks : List Nat) : Mark := (s, ks.map fun n => ((n : Nat) : Int))
theorem goT_node {s : Str} {ps : List PT} {rows : Tr} : goT (.node s ps) rows = match markIx (goL ps rows).1 (mkI s (goL ps rows).2) with
    | some k => ((goL ps rows).1, k)
    | none => ((goL ps rows).1 ++ [mkI s (goL ps rows).2], (goL ps rows).1.length) := by
  rw [goT]
  rfl
theorem goL_cons {p : PT} {ps : List PT} {rows : Tr} : goL (p :: ps) rows = ((goL ps (goT p rows).1).1, (goT p rows).2 :: (goL ps (goT p rows).1).2) := by rw [goL]
theorem goL_nil {rows : Tr} : goL [] rows = (rows, []) := by rw [goL]
mutual
theorem goT_ext : ∀ (p : PT) (rows : Tr), ∃ e, (goT p rows).1 = rows ++ e
  | .node s ps, rows => by
    obtain ⟨e, h⟩ := goL_ext ps rows
    rw [goT_node]
    split
    · exact ⟨e, h⟩
    · exact ⟨e ++ [mkI s (goL ps rows).2], by rw [← List.append_assoc, ← h]⟩
theorem goL_ext : ∀ (ps : List PT) (rows : Tr), ∃ e, (goL ps rows).1 = rows ++ e
  | [], rows => ⟨[], by rw [goL_nil, List.append_nil]⟩
  | p :: ps, rows => by
    obtain ⟨e, h⟩ := goT_ext p rows
    obtain ⟨f, g⟩ := goL_ext ps (goT p rows).1
    rw [goL_cons]
    exact ⟨e ++ f, by show (goL ps (goT p rows).1).1 = _; rw [g, h, List.append_assoc]⟩
end
theorem markIx_app {rows e : Tr} {m : Mark} {k : Nat} (h : markIx rows m = some k) : markIx (rows ++ e) m = some k := by
  unfold markIx at h ⊢
  rw [List.findIdx?_append, h]
  rfl
theorem markIx_last {rows : Tr} {m : Mark} (h : markIx rows m = none) : markIx (rows ++ [m]) m = some rows.length := by
  unfold markIx at h ⊢
  rw [List.findIdx?_append, h]
  simp [List.findIdx?_cons]
/-- it stands there already -/
def AtT (rows : Tr) (p : PT) (k : Nat) : Prop := goT p rows = (rows, k)
def AtL (rows : Tr) (ps : List PT) (ks : List Nat) : Prop := goL ps rows = (rows, ks)
theorem app_nil {α : Type} {l e f : List α} (h : l ++ e ++ f = l) : e = [] ∧ f = [] := by
  have := congrArg List.length h
  rw [List.length_append, List.length_append] at this
  exact ⟨List.eq_nil_of_length_eq_zero (by omega), List.eq_nil_of_length_eq_zero (by omega)⟩
theorem AtT.inv {rows : Tr} {s : Str} {ps : List PT} {k : Nat} (h : AtT rows (.node s ps) k) : ∃ ks, AtL rows ps ks ∧ markIx rows (mkI s ks) = some k := by
  unfold AtT at h
  obtain ⟨e, he⟩ := goL_ext ps rows
  rw [goT_node] at h
  split at h
  · rename_i j hj
    have h1 := congrArg Prod.fst h
    have h2 := congrArg Prod.snd h
    replace h1 : (goL ps rows).1 = rows := h1
    replace h2 : j = k := h2
    refine ⟨(goL ps rows).2, ?_, ?_⟩
    · unfold AtL
      rw [Prod.ext_iff]
      exact ⟨h1, rfl⟩
    · rw [h1, h2] at hj
      exact hj
  · exfalso
    have h1 := congrArg (fun x => x.1.length) h
    replace h1 : ((goL ps rows).1 ++ [mkI s (goL ps rows).2]).length = rows.length := h1
    rw [he, List.length_append, List.length_append, List.length_singleton] at h1
    omega
theorem AtT.mk {rows : Tr} {s : Str} {ps : List PT} {ks : List Nat} {k : Nat} (h : AtL rows ps ks) (m : markIx rows (mkI s ks) = some k) : AtT rows (.node s ps) k := by
  unfold AtT AtL at *
  rw [goT_node, h]
  show (match markIx rows (mkI s ks) with | some k => (rows, k) | none => _) = _
  rw [m]
theorem AtL.inv {rows : Tr} {p : PT} {ps : List PT} {ks : List Nat} (h : AtL rows (p :: ps) ks) : ∃ k ks', ks = k :: ks' ∧ AtT rows p k ∧ AtL rows ps ks' := by
  unfold AtL at h
  rw [goL_cons] at h
  obtain ⟨e, he⟩ := goT_ext p rows
  obtain ⟨f, hf⟩ := goL_ext ps (goT p rows).1
  have h1 := congrArg Prod.fst h
  have h2 := congrArg Prod.snd h
  replace h1 : (goL ps (goT p rows).1).1 = rows := h1
  replace h2 : (goT p rows).2 :: (goL ps (goT p rows).1).2 = ks := h2
  have z := h1
  rw [hf, he] at z
  obtain ⟨z1, z2⟩ := app_nil z
  have g1 : (goT p rows).1 = rows := by rw [he, z1, List.append_nil]
  rw [g1] at h1 h2
  exact ⟨_, _, h2.symm, Prod.ext g1 rfl, Prod.ext h1 rfl⟩
theorem AtL.mk {rows : Tr} {p : PT} {ps : List PT} {k : Nat} {ks : List Nat} (h : AtT rows p k) (t : AtL rows ps ks) : AtL rows (p :: ps) (k :: ks) := by
  unfold AtT AtL at *
  rw [goL_cons, h]
  show ((goL ps rows).1, k :: (goL ps rows).2) = _
  rw [t]
mutual
theorem AtT.app : ∀ (p : PT) {rows : Tr} {k : Nat} (e : Tr), AtT rows p k → AtT (rows ++ e) p k
  | .node s ps, rows, k, e, h => by
    obtain ⟨ks, h1, h2⟩ := h.inv
    exact AtT.mk (AtL.app ps e h1) (markIx_app h2)
theorem AtL.app : ∀ (ps : List PT) {rows : Tr} {ks : List Nat} (e : Tr), AtL rows ps ks → AtL (rows ++ e) ps ks
  | [], rows, ks, e, h => by
    have : ks = [] := by
      unfold AtL at h
      rw [goL_nil] at h
      exact (congrArg Prod.snd h).symm
    subst this
    unfold AtL
    rw [goL_nil]
  | p :: ps, rows, ks, e, h => by
    obtain ⟨k, ks', rfl, h1, h2⟩ := h.inv
    exact AtL.mk (AtT.app p e h1) (AtL.app ps e h2)
end
mutual
theorem go_at : ∀ (p : PT) (rows : Tr), AtT (goT p rows).1 p (goT p rows).2
  | .node s ps, rows => by
    have ih := go_atL ps rows
    rw [goT_node]
    split
    · rename_i k hk
      exact AtT.mk ih hk
    · rename_i hk
      exact AtT.mk (AtL.app ps _ ih) (markIx_last hk)
theorem go_atL : ∀ (ps : List PT) (rows : Tr), AtL (goL ps rows).1 ps (goL ps rows).2
  | [], rows => by
    unfold AtL
    rw [goL_nil, goL_nil]
  | p :: ps, rows => by
    have h1 := go_at p rows
    have h2 := go_atL ps (goT p rows).1
    obtain ⟨f, hf⟩ := goL_ext ps (goT p rows).1
    rw [goL_cons]
    refine AtL.mk ?_ h2
    show AtT (goL ps (goT p rows).1).1 p _
    rw [hf]
    exact AtT.app p f h1
end
/-! ### the run from any state -/
def trP (t : Tr) : List PT := foldV default PT.node t
def trA (t : Tr) (a : Nat) : PT := (trP t).getD a default
theorem trA_at {t : Tr} (ok : TrIdx t) {a : Nat} {r : Str × List Int} (h : t[a]? = some r) : trA t a = .node r.1 (r.2.map fun n => trA t n.toNat) := by
  unfold trA trP
  rw [List.getD_eq_getElem?_getD, foldV_at ok h]
  rfl
inductive StepsP (t : Tr) : PlSt → PlSt → Prop where
  | refl (s) : StepsP t s s
  | step {s u} : StepsP t (stepP t s) u → StepsP t s u
theorem StepsP.trans {t : Tr} {a b c : PlSt} (h : StepsP t a b) (g : StepsP t b c) : StepsP t a c := by
  induction h with
  | refl => exact g
  | step _ ih => exact .step (ih g)
def OwnOk (t : Tr) (rows : Tr) (own : List (Nat × Nat)) : Prop := ∀ a k, ownAt own a = some k → AtT rows (trA t a) k
theorem ownAt_snoc {own : List (Nat × Nat)} {a k : Nat} (h : ownAt own a = none) : ownAt (own ++ [(a, k)]) a = some k := by
  rw [ownAt_app, h, if_pos rfl]
  rfl
/-- what one tree's part of the run does -/
structure Does (t : Tr) (rows : Tr) (own : List (Nat × Nat)) (rows' : Tr) (own' : List (Nat × Nat)) (b : Nat) : Prop where
  ok : OwnOk t rows' own'
  keep : ∀ a k, ownAt own a = some k → ownAt own' a = some k
  low : ∀ a k, ownAt own' a = some k → ownAt own a = some k ∨ a < b
theorem Does.refl {t rows : Tr} {own : List (Nat × Nat)} (h : OwnOk t rows own) (b : Nat) : Does t rows own rows own b := ⟨h, fun _ _ z => z, fun _ _ z => .inl z⟩
theorem Does.trans {t r1 r2 r3 : Tr} {o1 o2 o3 : List (Nat × Nat)} {b : Nat} (h : Does t r1 o1 r2 o2 b) (g : Does t r2 o2 r3 o3 b) : Does t r1 o1 r3 o3 b := ⟨g.ok, fun a k z => g.keep a k (h.keep a k z), fun a k z => by
  rcases g.low a k z with z | z
  · exact h.low a k z
  · exact .inr z⟩
theorem Does.le {t r1 r2 : Tr} {o1 o2 : List (Nat × Nat)} {b c : Nat} (h : Does t r1 o1 r2 o2 b) (l : b ≤ c) : Does t r1 o1 r2 o2 c := ⟨h.ok, h.keep, fun a k z => (h.low a k z).imp id fun z => Nat.lt_of_lt_of_le z l⟩
theorem run_list {t : Tr} {b : Nat} (one : ∀ (a : Nat) (left : List (Nat × Bool)) (rows : Tr) (own : List (Nat × Nat)), a < b → OwnOk t rows own → ∃ own', StepsP t ⟨(a, false) :: left, rows, own⟩ ⟨left, (goT (trA t a) rows).1, own'⟩ ∧ ownAt own' a = some (goT (trA t a) rows).2 ∧ Does t rows own (goT (trA t a) rows).1 own' (a + 1)) :
    ∀ (ns : List Int) (left : List (Nat × Bool)) (rows : Tr) (own : List (Nat × Nat)), (∀ n ∈ ns, n.toNat < b) → OwnOk t rows own →
      ∃ own', StepsP t ⟨ns.map (fun n => (n.toNat, false)) ++ left, rows, own⟩ ⟨left, (goL (ns.map fun n => trA t n.toNat) rows).1, own'⟩ ∧ ns.map (fun n => ownAt own' n.toNat) = (goL (ns.map fun n => trA t n.toNat) rows).2.map some ∧ Does t rows own (goL (ns.map fun n => trA t n.toNat) rows).1 own' b
  | [], left, rows, own, _, ok => ⟨own, by simp only [List.map_nil, goL_nil]; exact .refl _, by simp only [List.map_nil, goL_nil], by simp only [List.map_nil, goL_nil]; exact Does.refl ok b⟩
  | n :: ns, left, rows, own, hb, ok => by
    obtain ⟨o1, s1, a1, d1⟩ := one n.toNat (ns.map (fun n => (n.toNat, false)) ++ left) rows own (hb n List.mem_cons_self) ok
    obtain ⟨o2, s2, a2, d2⟩ := run_list one ns left (goT (trA t n.toNat) rows).1 o1 (fun m hm => hb m (List.mem_cons_of_mem _ hm)) d1.ok
    have hn := hb n List.mem_cons_self
    simp only [List.map_cons, goL_cons]
    refine ⟨o2, s1.trans s2, ?_, (d1.le (by omega)).trans d2⟩
    show ownAt o2 n.toNat :: _ = some _ :: _
    rw [d2.keep _ _ a1, a2]
theorem run_one {t : Tr} (ok : TrIdx t) : ∀ (b a : Nat) (left : List (Nat × Bool)) (rows : Tr) (own : List (Nat × Nat)), a < b → a < t.length → OwnOk t rows own →
    ∃ own', StepsP t ⟨(a, false) :: left, rows, own⟩ ⟨left, (goT (trA t a) rows).1, own'⟩ ∧ ownAt own' a = some (goT (trA t a) rows).2 ∧ Does t rows own (goT (trA t a) rows).1 own' (a + 1)
  | 0, a, _, _, _, h, _, _ => absurd h (Nat.not_lt_zero _)
  | b + 1, a, left, rows, own, hab, la, okk => by
    cases c : ownAt own a with
    | some k =>
      have h := okk a k c
      unfold AtT at h
      rw [h]
      exact ⟨own, .step (by rw [stepP_there c]; exact .refl _), c, Does.refl okk _⟩
    | none =>
      obtain ⟨r, er⟩ : ∃ r, t[a]? = some r := ⟨_, List.getElem?_eq_getElem la⟩
      have ra := rowAt_eq er
      have rix := ok a r er
      obtain ⟨o1, s1, a1, d1⟩ := run_list (t := t) (b := a) (fun a' left' rows' own' h1 h2 => run_one ok b a' left' rows' own' (by omega) (by omega) h2) r.2 ((a, true) :: left) rows own (fun n hn => by have := rix.2 n hn; omega) okk
      have n1 : ownAt o1 a = none := by
        cases z : ownAt o1 a with
        | none => rfl
        | some k =>
          rcases d1.low a k z with z | z
          · rw [c] at z
            cases z
          · exact absurd z (Nat.lt_irrefl _)
      have et := trA_at ok er
      have ms : markOf t o1 a = mkI r.1 (goL (r.2.map fun n => trA t n.toNat) rows).2 := by
        unfold markOf mkI
        rw [ra]
        refine Prod.ext rfl ?_
        show r.2.map (fun n => (((ownAt o1 n.toNat).getD 0 : Nat) : Int)) = _
        have := congrArg (List.map fun x : Option Nat => ((x.getD 0 : Nat) : Int)) a1
        rw [List.map_map, List.map_map] at this
        exact this
      have st : StepsP t ⟨(a, false) :: left, rows, own⟩ ⟨(a, true) :: left, (goL (r.2.map fun n => trA t n.toNat) rows).1, o1⟩ := .step (by rw [stepP_open c, ra]; exact s1)
      rw [et, goT_node]
      have hk := go_at (trA t a) rows
      rw [et, goT_node] at hk
      cases cm : markIx (goL (r.2.map fun n => trA t n.toNat) rows).1 (mkI r.1 (goL (r.2.map fun n => trA t n.toNat) rows).2) with
      | some k =>
        rw [cm] at hk
        refine ⟨o1 ++ [(a, k)], st.trans (.step (by rw [stepP_old n1 (by rw [ms]; exact cm)]; exact .refl _)), ownAt_snoc n1, fun x k' hx => ?_, fun x k' hx => ?_, fun x k' hx => ?_⟩
        · rw [ownAt_app] at hx
          cases z : ownAt o1 x with
          | some y => rw [z] at hx; cases hx; exact d1.ok x k' z
          | none =>
            rw [z] at hx
            by_cases e : a = x
            · rw [if_pos e] at hx
              cases hx
              subst e
              rw [et]
              exact hk
            · rw [if_neg e] at hx
              cases hx
        · rw [ownAt_app, d1.keep x k' hx]
          rfl
        · rw [ownAt_app] at hx
          cases z : ownAt o1 x with
          | some y =>
            rw [z] at hx
            cases hx
            rcases d1.low x k' z with z | z
            · exact .inl z
            · exact .inr (Nat.lt_succ_of_lt z)
          | none =>
            rw [z] at hx
            by_cases e : a = x
            · exact .inr (by omega)
            · rw [if_neg e] at hx
              cases hx
      | none =>
        rw [cm] at hk
        refine ⟨o1 ++ [(a, (goL (r.2.map fun n => trA t n.toNat) rows).1.length)], st.trans (.step (by rw [stepP_new n1 (by rw [ms]; exact cm), ms]; exact .refl _)), ownAt_snoc n1, fun x k' hx => ?_, fun x k' hx => ?_, fun x k' hx => ?_⟩
        · rw [ownAt_app] at hx
          cases z : ownAt o1 x with
          | some y => rw [z] at hx; cases hx; exact AtT.app _ _ (d1.ok x k' z)
          | none =>
            rw [z] at hx
            by_cases e : a = x
            · rw [if_pos e] at hx
              cases hx
              subst e
              rw [et]
              exact hk
            · rw [if_neg e] at hx
              cases hx
        · rw [ownAt_app, d1.keep x k' hx]
          rfl
        · rw [ownAt_app] at hx
          cases z : ownAt o1 x with
          | some y =>
            rw [z] at hx
            cases hx
            rcases d1.low x k' z with z | z
            · exact .inl z
            · exact .inr (Nat.lt_succ_of_lt z)
          | none =>
            rw [z] at hx
            by_cases e : a = x
            · exact .inr (by omega)
            · rw [if_neg e] at hx
              cases hx
/-- the plain tree -/
def plainF (t : Tr) : Tr := (goT (trA t (t.length - 1)) []).1
theorem runP_steps {t : Tr} {u : PlSt} : ∀ {s : PlSt}, StepsP t s u → ∀ n, s = runP t n → ∃ m, n ≤ m ∧ u = runP t m := by
  intro s h
  induction h with
  | refl s => exact fun n e => ⟨n, Nat.le_refl _, e⟩
  | step _ ih =>
    intro n e
    obtain ⟨m, h1, h2⟩ := ih (n + 1) (by rw [e]; rfl)
    exact ⟨m, by omega, h2⟩
theorem runP_stays {t : Tr} {n : Nat} (h : (runP t n).left = []) : ∀ m, n ≤ m → runP t m = runP t n := by
  intro m hm
  induction m with
  | zero => have : n = 0 := by omega
            rw [this]
  | succ m ih =>
    by_cases c : n = m + 1
    · rw [c]
    · rw [show runP t (m + 1) = stepP t (runP t m) from rfl, ih (by omega)]
      generalize runP t n = s at h
      obtain ⟨l, r, o⟩ := s
      replace h : l = [] := h
      subst h
      rfl
theorem runP_ends {t : Tr} (ok : TrIdx t) (h : 0 < t.length) : ∃ m, (runP t m).left = [] ∧ (runP t m).rows = plainF t := by
  obtain ⟨o, s, _, _⟩ := run_one ok t.length (t.length - 1) [] [] [] (by omega) (by omega) (fun a k z => nomatch z)
  obtain ⟨m, _, e⟩ := runP_steps s 0 rfl
  exact ⟨m, by rw [← e], by rw [← e]; rfl⟩
end Bk
set_option Elab.async false
/-! Bk49: the unlike trees of a tree's rows; the plain tree by them. -/
namespace Bk
open PySem PySem.Spec PyProof.Rows L2
/-! ### a list or a tuple walked -/
/-! ### unlike rows -/
def unlStep (s : Tr × List Nat) (r : Str × List Int) : Tr × List Nat :=
  let m := mkI r.1 (r.2.map fun (n : Int) => s.2.getD n.toNat 0)
  match markIx s.1 m with
  | some k => (s.1, s.2 ++ [k])
  | none => (s.1 ++ [m], s.2 ++ [s.1.length])
def unlF (t : Tr) : Tr × List Nat := t.foldl unlStep ([], [])
theorem unlF_snoc {t : Tr} {r : Str × List Int} : unlF (t ++ [r]) = unlStep (unlF t) r := by
  unfold unlF
  rw [List.foldl_append]
  rfl
theorem unlF_take {t : Tr} {i : Nat} {r : Str × List Int} (h : t[i]? = some r) : unlF (t.take (i + 1)) = unlStep (unlF (t.take i)) r := by rw [take_at h, unlF_snoc]
structure Unl (t U : Tr) (num : List Nat) : Prop where
  len : num.length = t.length
  lt : ∀ (i k : Nat), num[i]? = some k → k < U.length
  nd : U.Nodup
  idx : TrIdx U
  le : U.length ≤ t.length
  same : ∀ (i k : Nat), num[i]? = some k → ∀ (β : Type) (d : β) (f : Str → List β → β), (foldV d f U)[k]? = (foldV d f t)[i]?
theorem Unl.step {t U : Tr} {num : List Nat} {r : Str × List Int} (h : Unl t U num) (ok : TrIdx (t ++ [r])) : Unl (t ++ [r]) (unlStep (U, num) r).1 (unlStep (U, num) r).2 := by
  have er : (t ++ [r])[t.length]? = some r := by rw [List.getElem?_append_right (Nat.le_refl _), Nat.sub_self]; rfl
  have rix := ok t.length r er
  obtain ⟨m, em⟩ : ∃ m, m = mkI r.1 (r.2.map fun (n : Int) => num.getD n.toNat 0) := ⟨_, rfl⟩
  have em2 : m = (r.1, (r.2.map fun (n : Int) => num.getD n.toNat 0).map fun n => ((n : Nat) : Int)) := em
  have mnum : ∀ n ∈ r.2, num[n.toNat]? = some (num.getD n.toNat 0) := fun n hn => by
    have := rix.2 n hn
    rw [List.getD_eq_getElem?_getD, List.getElem?_eq_getElem (by rw [h.len]; omega)]
    rfl
  have hval : ∀ (β : Type) (d : β) (f : Str → List β → β), f m.1 (m.2.map fun n => (foldV d f U).getD n.toNat d) = f r.1 (r.2.map fun n => (foldV d f t).getD n.toNat d) := fun β d f => by
    rw [em2]
    show f r.1 (((r.2.map fun (n : Int) => num.getD n.toNat 0).map fun n => ((n : Nat) : Int)).map fun n => (foldV d f U).getD n.toNat d) = _
    rw [List.map_map, List.map_map]
    congr 1
    refine List.map_congr_left fun n hn => ?_
    show (foldV d f U).getD ((num.getD n.toNat 0 : Nat) : Int).toNat d = _
    rw [Int.toNat_natCast, List.getD_eq_getElem?_getD (l := foldV d f U), List.getD_eq_getElem?_getD (l := foldV d f t), h.same _ _ (mnum n hn) β d f]
  have vt : ∀ (β : Type) (d : β) (f : Str → List β → β), (foldV d f (t ++ [r]))[t.length]? = some (f m.1 (m.2.map fun n => (foldV d f U).getD n.toNat d)) := fun β d f => by
    rw [hval β d f, foldV_snoc, List.getElem?_append_right (by rw [foldV_len]; exact Nat.le_refl _), foldV_len, Nat.sub_self]
    rfl
  have told : ∀ (i : Nat), i < t.length → ∀ (β : Type) (d : β) (f : Str → List β → β), (foldV d f (t ++ [r]))[i]? = (foldV d f t)[i]? := fun i hi β d f => by
    rw [foldV_snoc, List.getElem?_append_left (by rw [foldV_len]; exact hi)]
  have mlen : m.2.length ≤ 2 := by rw [em2]; show (List.map _ (List.map _ r.2)).length ≤ 2; rw [List.length_map, List.length_map]; exact rix.1
  have mrow : ∀ n ∈ m.2, 0 ≤ n ∧ n < (U.length : Int) := fun n hn => by
    rw [em2] at hn
    obtain ⟨x, hx, rfl⟩ := List.mem_map.1 hn
    obtain ⟨y, hy, rfl⟩ := List.mem_map.1 hx
    have := h.lt _ _ (mnum y hy)
    omega
  have snoc_get : ∀ {k0 i k : Nat}, (num ++ [k0])[i]? = some k → (i < t.length ∧ num[i]? = some k) ∨ (i = t.length ∧ k = k0) := fun {k0 i k} hk => by
    by_cases c : i < num.length
    · rw [List.getElem?_append_left c] at hk
      exact .inl ⟨by rw [← h.len]; exact c, hk⟩
    · rw [List.getElem?_append_right (by omega)] at hk
      have e : i = num.length := by
        have := (List.getElem?_eq_some_iff.1 hk).1
        rw [List.length_singleton] at this
        omega
      subst e
      rw [Nat.sub_self] at hk
      cases hk
      exact .inr ⟨h.len, rfl⟩
  cases cm : markIx U m with
  | some k0 =>
    have es : unlStep (U, num) r = (U, num ++ [k0]) := by
      show (match markIx U (mkI r.1 (r.2.map fun (n : Int) => num.getD n.toNat 0)) with | some k => (U, num ++ [k]) | none => (U ++ [mkI r.1 (r.2.map fun (n : Int) => num.getD n.toNat 0)], num ++ [U.length])) = _
      rw [← em, cm]
    rw [es]
    have hk := markIx_some cm
    refine ⟨by rw [List.length_append, List.length_append, h.len]; rfl, fun i k hik => ?_, h.nd, h.idx, by rw [List.length_append]; have := h.le; show U.length ≤ _; omega, fun i k hik β d f => ?_⟩
    · rcases snoc_get hik with ⟨_, z⟩ | ⟨_, rfl⟩
      · exact h.lt i k z
      · exact (List.getElem?_eq_some_iff.1 hk).1
    · rcases snoc_get hik with ⟨li, z⟩ | ⟨rfl, rfl⟩
      · rw [told i li]
        exact h.same i k z β d f
      · rw [vt, foldV_at h.idx hk]
  | none =>
    have es : unlStep (U, num) r = (U ++ [m], num ++ [U.length]) := by
      show (match markIx U (mkI r.1 (r.2.map fun (n : Int) => num.getD n.toNat 0)) with | some k => (U, num ++ [k]) | none => (U ++ [mkI r.1 (r.2.map fun (n : Int) => num.getD n.toNat 0)], num ++ [U.length])) = _
      rw [← em, cm]
    rw [es]
    have hm := markIx_none cm
    refine ⟨by rw [List.length_append, List.length_append, h.len]; rfl, fun i k hik => ?_, ?_, h.idx.snoc mlen mrow, by show (U ++ [m]).length ≤ _; rw [List.length_append, List.length_append]; have := h.le; simp; omega, fun i k hik β d f => ?_⟩
    · show k < (U ++ [m]).length
      rw [List.length_append, List.length_singleton]
      rcases snoc_get hik with ⟨_, z⟩ | ⟨_, rfl⟩
      · have := h.lt i k z
        omega
      · omega
    · refine List.nodup_append.2 ⟨h.nd, List.nodup_cons.2 ⟨fun z => (nomatch z), List.nodup_nil⟩, fun x hx y hy => ?_⟩
      rw [List.mem_singleton.1 hy]
      intro z
      rw [z] at hx
      exact hm hx
    · show (foldV d f (U ++ [m]))[k]? = _
      rcases snoc_get hik with ⟨li, z⟩ | ⟨rfl, rfl⟩
      · rw [told i li, foldV_app h.idx m (h.lt i k z)]
        exact h.same i k z β d f
      · rw [vt, foldV_snoc, List.getElem?_append_right (by rw [foldV_len]; exact Nat.le_refl _), foldV_len, Nat.sub_self]
        rfl
theorem Unl.of {t : Tr} (ok : TrIdx t) : ∀ i, i ≤ t.length → Unl (t.take i) (unlF (t.take i)).1 (unlF (t.take i)).2
  | 0, _ => by
    rw [List.take_zero]
    exact ⟨rfl, fun i k h => by simp [unlF] at h, List.nodup_nil, fun i r h => by simp [unlF] at h, Nat.le_refl _, fun i k h => by simp [unlF] at h⟩
  | i + 1, hi => by
    have li : i < t.length := hi
    have er := List.getElem?_eq_getElem li
    have ih := Unl.of ok i (Nat.le_of_lt li)
    rw [unlF_take er]
    rw [take_at er]
    exact ih.step (by rw [← take_at er]; exact ok.take _)
theorem Unl.all {t : Tr} (ok : TrIdx t) : Unl t (unlF t).1 (unlF t).2 := by
  have := Unl.of ok t.length (Nat.le_refl _)
  rw [List.take_length] at this
  exact this
/-! ### unlike rows are unlike trees -/
/-- the size and other values of the plain tree -/
theorem plain_end {t : Tr} (ok : TrIdx t) (h : 0 < t.length) : PlEnd t (plainF t) := by
  obtain ⟨m, h1, h2⟩ := runP_ends ok h
  have inv : ∀ n, PInv t (runP t n) := by
    intro n
    induction n with
    | zero => exact PInv.start h
    | succ n ih =>
      by_cases c : (runP t n).left = []
      · rw [runP_stays c (n + 1) (Nat.le_succ n)]
        exact ih
      · exact (ih.step ok c).1
  rw [← h2]
  exact (inv m).fin h1
theorem runP_inv {t : Tr} (ok : TrIdx t) (h : 0 < t.length) (n : Nat) : PInv t (runP t n) := by
  induction n with
  | zero => exact PInv.start h
  | succ n ih =>
    by_cases c : (runP t n).left = []
    · rw [runP_stays c (n + 1) (Nat.le_succ n)]
      exact ih
    · exact (ih.step ok c).1
/-! ### contracts -/
end Bk
set_option Elab.async false
/-! Bk50: the plain tree by the unlike rows; patterns laid. -/
namespace Bk
open PySem PySem.Spec PyProof.Rows L2
/-! ### the unlike trees up to the whole -/
end Bk
set_option Elab.async false
/-! Bk51: any data compared; patterns laid; what a turned tree is. -/
namespace Bk
open PySem PySem.Spec PyProof.Rows L2
/-! ### any data compared -/
/-! ### patterns -/
abbrev PtR := Str × (Int ⊕ List Int)
abbrev Pt := List PtR
/-! ### a pattern laid behind rows -/
theorem trIdx_snoc {t : Tr} {r : Str × List Int} (ok : TrIdx t) (h2 : r.2.length ≤ 2) (h : ∀ n ∈ r.2, 0 ≤ n ∧ n < (t.length : Int)) : TrIdx (t ++ [r]) := fun i q hq => by
  by_cases c : i < t.length
  · rw [List.getElem?_append_left c] at hq
    exact ok i q hq
  · rw [List.getElem?_append_right (by omega)] at hq
    have : i = t.length := by
      have := (List.getElem?_eq_some_iff.1 hq).1
      rw [List.length_singleton] at this
      omega
    subst this
    rw [Nat.sub_self] at hq
    cases hq
    exact ⟨h2, h⟩
/-! ### what it means -/
/-! ### a tree turned -/
end Bk
set_option Elab.async false
/-! Bk52: list.remove of any data; patterns drawn. -/
namespace Bk
open PySem PySem.Spec PyProof.Rows L2
/-! ### list.remove -/
/-! ### patterns and kinds -/
structure PtKs (w : Wd) (pk ks : List Int) (p : Pt) : Prop where
  len : ks.length = p.length
  prt : ∀ (i : Nat) (r : PtR) (k : Int), p[i]? = some r → r.2 = .inl k → r.1 = "part" ∧ 0 ≤ k ∧ k.toNat < pk.length ∧ ks[i]? = pk[k.toNat]?
  mkr : ∀ (i : Nat) (r : PtR) (ns : List Int), p[i]? = some r → r.2 = .inr ns → ∃ e, mkOf w r.1 = some e ∧ ns.length = (dueOf w e).length ∧ ks[i]? = some (e.1 : Int) ∧ ∀ (j : Nat) (n : Int), ns[j]? = some n → 0 ≤ n ∧ n.toNat < i ∧ ks[n.toNat]? = (dueOf w e)[j]?
theorem due_two {w : Wd} (ok : WoodOk w) {e : Nat × Mk} (he : e ∈ tabFrom 0 w) : (dueOf w e).length ≤ 2 := by
  obtain ⟨_, h, h2, _⟩ := dueOf_in ok he
  omega
instance : Inhabited PtR := ⟨("", .inl 0)⟩
theorem PtKs.nil {w : Wd} {pk : List Int} : PtKs w pk [] [] := ⟨rfl, fun i r k h => by simp at h, fun i r ns h => by simp at h⟩
theorem PtKs.part {w : Wd} {pk ks : List Int} {p : Pt} (h : PtKs w pk ks p) {k kd : Int} (k0 : 0 ≤ k) (k1 : k.toNat < pk.length) (hk : pk[k.toNat]? = some kd) : PtKs w pk (ks ++ [kd]) (p ++ ([(("part" : Str), Sum.inl k)] : Pt)) := by
  have l := h.len
  refine ⟨by rw [List.length_append, List.length_append, l]; rfl, fun i r x hr hx => ?_, fun i r ns hr hn => ?_⟩
  · by_cases c : i < p.length
    · rw [List.getElem?_append_left c] at hr
      rw [List.getElem?_append_left (by omega)]
      exact h.prt i r x hr hx
    · rw [List.getElem?_append_right (by omega)] at hr
      have : i = p.length := by
        have := (List.getElem?_eq_some_iff.1 hr).1
        rw [List.length_singleton] at this
        omega
      subst this
      rw [Nat.sub_self] at hr
      cases hr
      cases hx
      refine ⟨rfl, k0, k1, ?_⟩
      rw [List.getElem?_append_right (by omega), ← l, Nat.sub_self, hk]
      rfl
  · by_cases c : i < p.length
    · rw [List.getElem?_append_left c] at hr
      obtain ⟨e, h1, h2, h3, h4⟩ := h.mkr i r ns hr hn
      refine ⟨e, h1, h2, by rw [List.getElem?_append_left (by omega)]; exact h3, fun j n hj => ?_⟩
      obtain ⟨a, b, d⟩ := h4 j n hj
      exact ⟨a, b, by rw [List.getElem?_append_left (by omega)]; exact d⟩
    · rw [List.getElem?_append_right (by omega)] at hr
      have : i = p.length := by
        have := (List.getElem?_eq_some_iff.1 hr).1
        rw [List.length_singleton] at this
        omega
      subst this
      rw [Nat.sub_self] at hr
      cases hr
      cases hn
/-- each row from a on, but the last one, is named by a later one -/
def Used (a b : Nat) (p : Pt) : Prop := ∀ i, a ≤ i → i + 1 < b → ∃ (j : Nat) (r : PtR) (ns : List Int), i < j ∧ j < b ∧ p[j]? = some r ∧ r.2 = .inr ns ∧ (i : Int) ∈ ns
/-! ### rows in another order -/
structure Ord (p : Pt) (ord : List Nat) : Prop where
  nd : ord.Nodup
  lt : ∀ a ∈ ord, a < p.length
  top : ∀ (j a : Nat) (r : PtR) (ns : List Int), ord[j]? = some a → p[a]? = some r → r.2 = .inr ns → ∀ n ∈ ns, n.toNat ∈ ord.take j
theorem idxOf_take {l : List Nat} {a j : Nat} (h : a ∈ l.take j) : l.idxOf a < j ∧ l[l.idxOf a]? = some a ∧ (l.take j).idxOf a = l.idxOf a := by
  have e : l.idxOf a = (l.take j).idxOf a := by
    have := List.idxOf_append (l₁ := l.take j) (l₂ := l.drop j) (a := a)
    rw [List.take_append_drop, if_pos h] at this
    exact this
  have l1 := List.idxOf_lt_length_of_mem h
  have l2 : (l.take j).length ≤ j := by rw [List.length_take]; omega
  have m : a ∈ l := List.mem_of_mem_take h
  exact ⟨by omega, by rw [List.getElem?_eq_getElem (List.idxOf_lt_length_of_mem m), List.getElem_idxOf], e.symm⟩
theorem Ord.snoc {p : Pt} {ord : List Nat} {a : Nat} (h : Ord p ord) (ha : a < p.length) (hn : a ∉ ord) (ht : ∀ (r : PtR) (ns : List Int), p[a]? = some r → r.2 = .inr ns → ∀ n ∈ ns, n.toNat ∈ ord) : Ord p (ord ++ [a]) := by
  refine ⟨List.nodup_append.2 ⟨h.nd, List.nodup_cons.2 ⟨fun z => (nomatch z), List.nodup_nil⟩, fun x hx y hy => ?_⟩, fun x hx => ?_, fun j b r ns hb hr hs n hm => ?_⟩
  · rw [List.mem_singleton.1 hy]
    exact fun z => hn (z ▸ hx)
  · rcases List.mem_append.1 hx with z | z
    · exact h.lt x z
    · rw [List.mem_singleton.1 z]
      exact ha
  · by_cases c : j < ord.length
    · rw [List.getElem?_append_left c] at hb
      rw [List.take_append_of_le_length (by omega)]
      exact h.top j b r ns hb hr hs n hm
    · rw [List.getElem?_append_right (by omega)] at hb
      have : j = ord.length := by
        have := (List.getElem?_eq_some_iff.1 hb).1
        rw [List.length_singleton] at this
        omega
      subst this
      rw [Nat.sub_self] at hb
      cases hb
      rw [List.take_left]
      exact ht r ns hr hs n hm
theorem Ord.all {p : Pt} {ord : List Nat} (h : Ord p ord) (hl : ord.length = p.length) {a : Nat} (ha : a < p.length) : a ∈ ord := by
  by_cases c : a ∈ ord
  · exact c
  · exfalso
    have := nodup_sub2 (a :: ord) (List.range p.length) (List.nodup_cons.2 ⟨c, h.nd⟩) fun x hx => by
      rcases List.mem_cons.1 hx with rfl | z
      · exact List.mem_range.2 ha
      · exact List.mem_range.2 (h.lt x z)
    rw [List.length_cons, List.length_range] at this
    omega
/-- the whole comes last -/
theorem Ord.last {p : Pt} {ord : List Nat} (o : Ord p ord) (hl : ord.length = p.length) (h0 : 0 < p.length) (u : Used 0 p.length p) : ord[p.length - 1]? = some (p.length - 1) := by
  obtain ⟨a, ha⟩ : ∃ a, ord[p.length - 1]? = some a := ⟨_, List.getElem?_eq_getElem (by omega)⟩
  rw [ha]
  have la := o.lt a (List.mem_of_getElem? ha)
  by_cases c : a + 1 < p.length
  · exfalso
    obtain ⟨j, r, ns, h1, h2, h3, h4, h5⟩ := u a (Nat.zero_le _) c
    obtain ⟨q, hq⟩ := List.mem_iff_getElem?.1 (o.all hl h2)
    have lq := (List.getElem?_eq_some_iff.1 hq).1
    have ht := o.top q j r ns hq h3 h4 _ h5
    rw [Int.toNat_natCast] at ht
    obtain ⟨t1, t2, _⟩ := idxOf_take ht
    have e1 := (List.getElem?_eq_some_iff.1 ha)
    have e2 := (List.getElem?_eq_some_iff.1 t2)
    obtain ⟨b1, b2⟩ := e1
    obtain ⟨d1, d2⟩ := e2
    have := (List.getElem_inj o.nd (h₀ := b1) (h₁ := d1)).1 (b2.trans d2.symm)
    omega
  · congr 1
    omega
/-! ### how great a pattern's rows are -/
end Bk
set_option Elab.async false
/-! Bk53: turners drawn, trees turned: contracts. -/
namespace Bk
open PySem PySem.Spec PyProof.Rows L2
/-- everything but three objects stands -/
def But3 (p l r : Addr) (H H' : Hp) : Prop := ∀ b o, b ≠ p → b ≠ l → b ≠ r → H b = some o → H' b = some o
theorem But3.refl {p l r : Addr} {H : Hp} : But3 p l r H H := fun _ _ _ _ _ h => h
theorem But3.trans {p l r : Addr} {H H1 H2 : Hp} (a : But3 p l r H H1) (b : But3 p l r H1 H2) : But3 p l r H H2 := fun x o h1 h2 h3 h => b x o h1 h2 h3 (a x o h1 h2 h3 h)
theorem But3.at_new {p l r d : Addr} {H H1 : Hp} {o : HO} (e : But3 p l r H H1) (n : H d = none) : But3 p l r H (upd H1 d o) := fun x u h1 h2 h3 h => by rw [upd_ne (ne_of_none h n)]; exact e x u h1 h2 h3 h
/-- three lists: all tuples stand -/
theorem But3.tk {p l r : Addr} {H H1 : Hp} {a b c : List V} (e : But3 p l r H H1) (h1 : H p = some (.lst a)) (h2 : H l = some (.lst b)) (h3 : H r = some (.lst c)) : Tk H H1 := fun x ys z =>
  e x _ (ne_of z h1 (fun y => nomatch y)) (ne_of z h2 (fun y => nomatch y)) (ne_of z h3 (fun y => nomatch y)) z
theorem Box.lst {H : Hp} {p : Addr} (h : Box H p) : ∃ xs, H p = some (.lst xs) := by
  obtain ⟨a, b, c, h⟩ := h
  exact ⟨_, h⟩
def natV (l : List Nat) : List V := (l.map fun n => ((n : Nat) : Int)).map V.int
end Bk
set_option Elab.async false
/-! Bk54: rows put in another order; things put behind others. -/
namespace Bk
open PySem PySem.Spec PyProof.Rows L2
theorem But3.free {p l r d : Addr} {H H1 : Hp} (e : But3 p l r H H1) {a b c : HO} (hp : H1 p = some a) (hl : H1 l = some b) (hr : H1 r = some c) (n : H1 d = none) : H d = none := by
  cases h : H d with
  | none => rfl
  | some o =>
    have := e d o (fun z => by rw [z, hp] at n; cases n) (fun z => by rw [z, hl] at n; cases n) (fun z => by rw [z, hr] at n; cases n) h
    rw [n] at this
    cases this
end Bk
set_option Elab.async false
/-! Bk55: full woods. -/
namespace Bk
open PySem PySem.Spec PyProof.Rows L2
end Bk
set_option Elab.async false
/-! Bk56: what a turned tree is like. -/
namespace Bk
open PySem PySem.Spec PyProof.Rows L2
/-- the names of the plain tree -/
theorem plain_names {t : Tr} {P : Str → Prop} (ok : TrIdx t) (h0 : 0 < t.length) (h : ∀ r ∈ t, P r.1) : ∀ r ∈ plainF t, P r.1 := fun r hr => by
  obtain ⟨m, h1, h2⟩ := runP_ends ok h0
  have inv := runP_inv ok h0 m
  rw [← h2] at hr
  obtain ⟨k, hk⟩ := List.mem_iff_getElem?.1 hr
  obtain ⟨a, la, e, _⟩ := inv.rowl k r hk
  have ea := List.getElem?_eq_getElem la
  rw [rowAt_eq ea] at e
  rw [e]
  exact h _ (List.getElem_mem la)
theorem sizesM {α : Type} {f : α → D} {k : Nat} : ∀ {as : List α}, (∀ a ∈ as, (f a).size ≤ k) → D.sizes (as.map f) ≤ k * as.length
  | [], _ => Nat.zero_le _
  | a :: as, h => by
    have h1 := h a List.mem_cons_self
    have h2 := sizesM (as := as) fun b hb => h b (List.mem_cons_of_mem _ hb)
    show (f a).size + D.sizes (as.map f) ≤ k * (as.length + 1)
    rw [Nat.mul_succ]
    omega
theorem row_size {r : Str × List Int} (h : r.2.length ≤ 2) : (rowD r).size ≤ 5 := by
  have := sizesM (f := D.int) (k := 1) (as := r.2) fun _ _ => Nat.le_refl _
  show 1 + (1 + ((1 + D.sizes (r.2.map D.int)) + 0)) ≤ 5
  omega
theorem tree_size {t : Tr} (h : TrIdx t) : (treeD t).size ≤ 1 + 5 * t.length := by
  have := sizesM (f := rowD) (k := 5) (as := t) fun r hr => by
    obtain ⟨i, hi⟩ := List.mem_iff_getElem?.1 hr
    exact row_size (h i r hi).1
  show 1 + D.sizes (t.map rowD) ≤ _
  omega
end Bk
set_option Elab.async false
/-! Bk57: a turned tree is a tree of the second wood, and how great it is. -/
namespace Bk
open PySem PySem.Spec PyProof.Rows L2
theorem snoc_at {α : Type} {l : List α} {x y : α} {i : Nat} (h : (l ++ [x])[i]? = some y) : (i < l.length ∧ l[i]? = some y) ∨ (i = l.length ∧ x = y) := by
  by_cases c : i < l.length
  · rw [List.getElem?_append_left c] at h
    exact .inl ⟨c, h⟩
  · rw [List.getElem?_append_right (by omega)] at h
    have : i = l.length := by
      have := (List.getElem?_eq_some_iff.1 h).1
      rw [List.length_singleton] at this
      omega
    subst this
    rw [Nat.sub_self] at h
    cases h
    exact .inr ⟨rfl, rfl⟩
theorem TrW.snoc {w : Wd} {t : Tr} {row : Str × List Int} {e : Nat × Mk} (h : TrW w t) (ok : WoodOk w) (he : mkOf w row.1 = some e) (hl : row.2.length = (dueOf w e).length) (hn : ∀ (u : Nat) (n : Int), row.2[u]? = some n → 0 ≤ n ∧ n < (t.length : Int) ∧ (dueOf w e)[u]? = some (kindAt w (rowAt t n.toNat).1)) : TrW w (t ++ [row]) := by
  have two := due_two ok (mkOf_some he).1
  refine ⟨trIdx_snoc h.idx (by omega) fun n hm => ?_, fun i r hi => ?_⟩
  · obtain ⟨u, hu⟩ := List.mem_iff_getElem?.1 hm
    obtain ⟨a, b, _⟩ := hn u n hu
    exact ⟨a, b⟩
  · rcases snoc_at hi with ⟨li, hi'⟩ | ⟨rfl, rfl⟩
    · obtain ⟨j, e, pa⟩ := h.row i r hi'
      refine ⟨j, e, pa.tab, pa.nm, pa.len, pa.two, fun u n hu => ?_, pa.kind⟩
      obtain ⟨a, b, q, hq, hd⟩ := pa.idx u n hu
      exact ⟨a, b, q, by rw [List.getElem?_append_left (by omega)]; exact hq, hd⟩
    · obtain ⟨m1, m2⟩ := mkOf_some he
      obtain ⟨j, hj⟩ := List.mem_iff_getElem?.1 m1
      refine ⟨j, e, hj, m2, hl, by omega, fun u n hu => ?_, by unfold kindAt; rw [he]⟩
      obtain ⟨a, b, c⟩ := hn u n hu
      have en := List.getElem?_eq_getElem (l := t) (i := n.toNat) (by omega)
      rw [rowAt_eq en] at c
      exact ⟨a, b, t[n.toNat], by rw [List.getElem?_append_left (by omega)]; exact en, c⟩
end Bk
set_option Elab.async false
/-! Bk58: printers behind turners. -/
namespace Bk
open PySem PySem.Spec PyProof.Rows L2
/-! ### values of trees as such -/
section
variable {β : Type}
mutual
def evT (f : Str → List β → β) : PT → β
  | .node s ps => f s (evL f ps)
def evL (f : Str → List β → β) : List PT → List β
  | [] => []
  | p :: ps => evT f p :: evL f ps
end
theorem evL_map (f : Str → List β → β) : ∀ ps : List PT, evL f ps = ps.map (evT f)
  | [] => by rw [evL]; rfl
  | p :: ps => by rw [evL, evL_map f ps]; rfl
theorem evT_node (f : Str → List β → β) (s : Str) (ps : List PT) : evT f (.node s ps) = f s (ps.map (evT f)) := by rw [evT, evL_map]
end
/-! ### texts put together -/
end Bk
set_option Elab.async false
/-! Bk59: what a printer behind a turner is, and what it prints. -/
namespace Bk
open PySem PySem.Spec PyProof.Rows L2
/-! ### what it prints -/
end Bk
set_option Elab.async false
/-! Bk60: the printer behind fits; contracts. -/
namespace Bk
open PySem PySem.Spec PyProof.Rows L2
/-! ### a printer's rows -/
end Bk
set_option Elab.async false
/-! Bk61: printers behind turners: contracts, lists told anew. -/
namespace Bk
open PySem PySem.Spec PyProof.Rows L2
/-! ### o[i] += text -/
/-! ### what stands on no older list -/
/-- from later lists to older ones -/
def Ls (H0 H : Hp) : Prop := ∀ a xs, H0 a = some (.lst xs) → ∃ ys, H a = some (.lst ys)
theorem Ls.ex {H0 H : Hp} (e : Ex H0 H) : Ls H0 H := fun a xs h => ⟨xs, e _ _ h⟩
theorem Ls.trans {H0 H1 H2 : Hp} (a : Ls H0 H1) (b : Ls H1 H2) : Ls H0 H2 := fun x xs h => by
  obtain ⟨ys, h1⟩ := a x xs h
  exact b x ys h1
/-! ### a comprehension whose items may be new lists -/
/-! ### rows as lists -/
/-! ### signs -/
/-! ### contracts -/
end Bk
set_option Elab.async false
/-! Bk62: how many rows a pattern's printers have. -/
namespace Bk
open PySem PySem.Spec PyProof.Rows L2
end Bk
set_option Elab.async false
/-! Bk63: how great a printer behind is. -/
namespace Bk
open PySem PySem.Spec PyProof.Rows L2
end Bk
set_option Elab.async false
/-! Bk64: sum(.., start=k), max(.., default=k). -/
namespace Bk
open PySem PySem.Spec PyProof.Rows L2
end Bk
set_option Elab.async false
/-! Bk65: heights, sizes, the plain tree by an order of the unlike rows. -/
namespace Bk
open PySem PySem.Spec PyProof.Rows L2
def plT (p : PT) : Tr := (goT p []).1
theorem plainF_eq (t : Tr) : plainF t = plT (trA t (t.length - 1)) := rfl
theorem trA_take {t : Tr} {k a : Nat} (hk : k ≤ t.length) (ha : a < k) : trA (t.take k) a = trA t a := by
  unfold trA trP
  rw [List.getD_eq_getElem?_getD, List.getD_eq_getElem?_getD, ← foldV_pre k hk, List.getElem?_take, if_pos ha]
/-! ### heights -/
/-! ### an order of rows, each behind its parts -/
structure OrdOk (U : Tr) (ord : List Nat) : Prop where
  nd : ord.Nodup
  lt : ∀ a ∈ ord, a < U.length
  cl : ∀ (a : Nat), a ∈ ord → ∀ n ∈ (rowAt U a).2, n.toNat ∈ ord
def rowO (U : Tr) (ord : List Nat) (a : Nat) : Mark := mkI (rowAt U a).1 ((rowAt U a).2.map fun n => ord.idxOf n.toNat)
def rowsO (U : Tr) (ord : List Nat) : Tr := ord.map (rowO U ord)
theorem OrdOk.nil (U : Tr) : OrdOk U [] := ⟨List.nodup_nil, fun a z => (nomatch z), fun a z => (nomatch z)⟩
theorem OrdOk.snoc {U : Tr} {ord : List Nat} (h : OrdOk U ord) {a : Nat} (la : a < U.length) (na : a ∉ ord) (hp : ∀ n ∈ (rowAt U a).2, n.toNat ∈ ord) : OrdOk U (ord ++ [a]) := by
  refine ⟨List.nodup_append.2 ⟨h.nd, List.nodup_cons.2 ⟨fun z => (nomatch z), List.nodup_nil⟩, fun x hx y hy => ?_⟩, fun b hb => ?_, fun b hb n hn => ?_⟩
  · rw [List.mem_singleton.1 hy]
    exact fun z => na (z ▸ hx)
  · rcases List.mem_append.1 hb with z | z
    · exact h.lt b z
    · rw [List.mem_singleton.1 z]
      exact la
  · rcases List.mem_append.1 hb with z | z
    · exact List.mem_append_left _ (h.cl b z n hn)
    · rw [List.mem_singleton.1 z] at hn
      exact List.mem_append_left _ (hp n hn)
theorem rowO_snoc {U : Tr} {ord : List Nat} {a b : Nat} (hp : ∀ n ∈ (rowAt U b).2, n.toNat ∈ ord) : rowO U (ord ++ [a]) b = rowO U ord b := by
  unfold rowO
  congr 1
  refine List.map_congr_left fun n hn => ?_
  rw [List.idxOf_append, if_pos (hp n hn)]
theorem rowsO_snoc {U : Tr} {ord : List Nat} (h : OrdOk U ord) {a : Nat} (hp : ∀ n ∈ (rowAt U a).2, n.toNat ∈ ord) : rowsO U (ord ++ [a]) = rowsO U ord ++ [rowO U ord a] := by
  unfold rowsO
  rw [List.map_append, List.map_singleton, rowO_snoc hp]
  congr 1
  exact List.map_congr_left fun b hb => rowO_snoc (h.cl b hb)
theorem idx_inj {ord : List Nat} {x y : Nat} (hx : x ∈ ord) (hy : y ∈ ord) (h : ord.idxOf x = ord.idxOf y) : x = y := by
  have a := List.getElem_idxOf (List.idxOf_lt_length_iff.2 hx)
  have b := List.getElem_idxOf (List.idxOf_lt_length_iff.2 hy)
  rw [← a, ← b]
  congr 1
theorem mk_inj {U : Tr} {ord : List Nat} {a b : Nat} (ix : TrIdx U) (nd : U.Nodup) (la : a < U.length) (lb : b < U.length) (ha : ∀ n ∈ (rowAt U a).2, n.toNat ∈ ord) (hb : ∀ n ∈ (rowAt U b).2, n.toNat ∈ ord) (h : rowO U ord a = rowO U ord b) : a = b := by
  have ea := List.getElem?_eq_getElem la
  have eb := List.getElem?_eq_getElem lb
  have ra := rowAt_eq ea
  have rb := rowAt_eq eb
  unfold rowO mkI at h
  have h1 := congrArg Prod.fst h
  have h2 := congrArg Prod.snd h
  replace h1 : (rowAt U a).1 = (rowAt U b).1 := h1
  replace h2 : ((rowAt U a).2.map fun n => ord.idxOf n.toNat).map (fun n => ((n : Nat) : Int)) = ((rowAt U b).2.map fun n => ord.idxOf n.toNat).map fun n => ((n : Nat) : Int) := h2
  rw [List.map_map, List.map_map] at h2
  have key : ∀ (l m : List Int), (∀ n ∈ l, 0 ≤ n ∧ n.toNat ∈ ord) → (∀ n ∈ m, 0 ≤ n ∧ n.toNat ∈ ord) → l.map ((fun n => ((n : Nat) : Int)) ∘ fun n => ord.idxOf n.toNat) = m.map ((fun n => ((n : Nat) : Int)) ∘ fun n => ord.idxOf n.toNat) → l = m := fun l => by
    induction l with
    | nil =>
      intro m _ _ e
      cases m with
      | nil => rfl
      | cons y m => cases e
    | cons x l ih =>
      intro m hl hm e
      cases m with
      | nil => cases e
      | cons y m =>
        rw [List.map_cons, List.map_cons] at e
        injection e with e1 e2
        replace e1 : ((ord.idxOf x.toNat : Nat) : Int) = (ord.idxOf y.toNat : Nat) := e1
        obtain ⟨x0, xm⟩ := hl x List.mem_cons_self
        obtain ⟨y0, ym⟩ := hm y List.mem_cons_self
        have z := idx_inj xm ym (by omega)
        have e3 : x = y := by omega
        rw [e3, ih m (fun n hn => hl n (List.mem_cons_of_mem _ hn)) (fun n hn => hm n (List.mem_cons_of_mem _ hn)) e2]
  have h3 := key _ _ (fun n hn => ⟨by rw [ra] at hn; exact ((ix a _ ea).2 n hn).1, ha n hn⟩) (fun n hn => ⟨by rw [rb] at hn; exact ((ix b _ eb).2 n hn).1, hb n hn⟩) h2
  rw [ra, rb] at h1 h3
  have e : U[a] = U[b] := Prod.ext h1 h3
  exact (List.getElem_inj nd).1 e
theorem AtL_map {R : Tr} {f : Int → PT} {g : Int → Nat} : ∀ {ns : List Int}, (∀ n ∈ ns, AtT R (f n) (g n)) → AtL R (ns.map f) (ns.map g)
  | [], _ => by
    unfold AtL
    rw [List.map_nil, List.map_nil, goL_nil]
  | n :: ns, h => AtL.mk (h n List.mem_cons_self) (AtL_map fun m hm => h m (List.mem_cons_of_mem _ hm))
theorem ord_there {U : Tr} {ord : List Nat} (ix : TrIdx U) (nd : U.Nodup) (h : OrdOk U ord) : ∀ (b a : Nat), a < b → a ∈ ord → AtT (rowsO U ord) (trA U a) (ord.idxOf a)
  | 0, a, hb, _ => absurd hb (Nat.not_lt_zero _)
  | b + 1, a, hb, ha => by
    have la := h.lt a ha
    have ea := List.getElem?_eq_getElem la
    have ra := rowAt_eq ea
    rw [trA_at ix ea]
    refine AtT.mk (ks := (U[a]).2.map fun n => ord.idxOf n.toNat) (AtL_map (f := fun n => trA U n.toNat) (g := fun n => ord.idxOf n.toNat) fun n hn => ?_) ?_
    · have := (ix a _ ea).2 n hn
      exact ord_there ix nd h b n.toNat (by omega) (h.cl a ha n (by rw [ra]; exact hn))
    · have e : mkI (U[a]).1 ((U[a]).2.map fun n => ord.idxOf n.toNat) = rowO U ord a := by
        unfold rowO
        rw [ra]
      rw [e]
      have li := List.idxOf_lt_length_iff.2 ha
      unfold markIx
      rw [List.findIdx?_eq_some_iff_getElem]
      refine ⟨by unfold rowsO; rw [List.length_map]; exact li, ?_, fun j hj => ?_⟩
      · unfold rowsO
        rw [List.getElem_map, List.getElem_idxOf li]
        exact decide_eq_true rfl
      · have lj : j < ord.length := by omega
        unfold rowsO
        rw [List.getElem_map]
        intro z
        have z2 := of_decide_eq_true z
        have mj := List.getElem_mem lj
        have e2 := mk_inj ix nd (h.lt _ mj) la (h.cl _ mj) (h.cl _ ha) z2
        have l3 := List.idxOf_lt_length_iff.2 mj
        have e3 := List.getElem_idxOf l3
        have := (List.getElem_inj h.nd (h₀ := l3) (h₁ := lj)).1 e3
        rw [e2] at this
        omega
theorem ord_new {U : Tr} {ord : List Nat} (ix : TrIdx U) (nd : U.Nodup) (h : OrdOk U ord) {a : Nat} (la : a < U.length) (na : a ∉ ord) (hp : ∀ n ∈ (rowAt U a).2, n.toNat ∈ ord) : (goT (trA U a) (rowsO U ord)).1 = rowsO U (ord ++ [a]) := by
  have ea := List.getElem?_eq_getElem la
  have ra := rowAt_eq ea
  have aL := AtL_map (R := rowsO U ord) (f := fun n => trA U n.toNat) (g := fun n => ord.idxOf n.toNat) (ns := (U[a]).2) fun n hn => ord_there ix nd h (n.toNat + 1) n.toNat (Nat.lt_succ_self _) (hp n (by rw [ra]; exact hn))
  unfold AtL at aL
  have e : mkI (U[a]).1 ((U[a]).2.map fun n => ord.idxOf n.toNat) = rowO U ord a := by
    unfold rowO
    rw [ra]
  rw [trA_at ix ea, goT_node, aL, e]
  have none : markIx (rowsO U ord) (rowO U ord a) = none := by
    cases c : markIx (rowsO U ord) (rowO U ord a) with
    | none => rfl
    | some k =>
      have hk := markIx_some c
      unfold rowsO at hk
      rw [List.getElem?_map] at hk
      cases eo : ord[k]? with
      | none => rw [eo] at hk; cases hk
      | some b =>
        rw [eo] at hk
        have mb := List.mem_of_getElem? eo
        have := mk_inj ix nd (h.lt b mb) la (h.cl b mb) hp (Option.some.inj hk)
        exact absurd (this ▸ mb) na
  rw [none, rowsO_snoc h hp]
theorem goL_open {pre post : List PT} {q : PT} : ∀ {R : Tr} {ks : List Nat}, AtL R pre ks → goL (pre ++ q :: post) R = goL (pre ++ q :: post) (goT q R).1 := by
  induction pre with
  | nil =>
    intro R ks _
    have g := go_at q R
    unfold AtT at g
    rw [List.nil_append, goL_cons, goL_cons, g]
  | cons p pre ih =>
    intro R ks h
    obtain ⟨k, ks', _, h1, h2⟩ := h.inv
    obtain ⟨e, he⟩ := goT_ext q R
    have h1' : AtT (goT q R).1 p k := by rw [he]; exact AtT.app p e h1
    unfold AtT at h1 h1'
    rw [List.cons_append, goL_cons, goL_cons, h1, h1']
    show ((goL (pre ++ q :: post) R).1, k :: (goL (pre ++ q :: post) R).2) = ((goL (pre ++ q :: post) (goT q R).1).1, k :: _)
    rw [ih h2]
theorem ord_open {U : Tr} {ord : List Nat} (ix : TrIdx U) (nd : U.Nodup) (h : OrdOk U ord) {a : Nat} (la : a < U.length) {pre post : List Int} {p : Int} (e : (rowAt U a).2 = pre ++ p :: post) (hp : ∀ n ∈ pre, n.toNat ∈ ord) : (goT (trA U a) (rowsO U ord)).1 = (goT (trA U a) (goT (trA U p.toNat) (rowsO U ord)).1).1 := by
  have ea := List.getElem?_eq_getElem la
  have ra := rowAt_eq ea
  rw [trA_at ix ea]
  rw [ra] at e
  have aL := AtL_map (R := rowsO U ord) (f := fun n => trA U n.toNat) (g := fun n => ord.idxOf n.toNat) (ns := pre) fun n hn => ord_there ix nd h (n.toNat + 1) n.toNat (Nat.lt_succ_self _) (hp n hn)
  have z := goL_open (q := trA U p.toNat) (post := post.map fun n => trA U n.toNat) aL
  rw [goT_node, goT_node, e, List.map_append, List.map_cons, z]
def finO (U : Tr) (S : List Nat) (R : Tr) : Tr := S.foldl (fun R a => (goT (trA U a) R).1) R
end Bk
set_option Elab.async false
/-! Bk66: heights, sizes, parts of trees, trees made of parts, copied: contracts. -/
namespace Bk
open PySem PySem.Spec PyProof.Rows L2
end Bk
set_option Elab.async false
/-! Bk67: trees laid behind one another, trees copied. -/
namespace Bk
open PySem PySem.Spec PyProof.Rows L2
/-! ### places of copies -/
structure PlI (H : Hp) (ps : List Addr) (pl : List (List Nat)) : Prop where
  len : ps.length = pl.length
  nd : ps.Nodup
  at_ : ∀ (q : Nat) (a : Addr) (l : List Nat), ps[q]? = some a → pl[q]? = some l → H a = some (.lst (natV l))
theorem PlI.keep {H H' : Hp} {ps : List Addr} {pl : List (List Nat)} (h : PlI H ps pl) (k : ∀ a ∈ ps, ∀ us, H a = some (.lst us) → H' a = some (.lst us)) : PlI H' ps pl := ⟨h.len, h.nd, fun q a l ha hl => k a (List.mem_of_getElem? ha) _ (h.at_ q a l ha hl)⟩
theorem PlI.snoc {H : Hp} {ps : List Addr} {pl : List (List Nat)} {a : Addr} {l : List Nat} (h : PlI H ps pl) (na : a ∉ ps) (ha : H a = some (.lst (natV l))) : PlI H (ps ++ [a]) (pl ++ [l]) := by
  refine ⟨by rw [List.length_append, List.length_append, h.len]; rfl, List.nodup_append.2 ⟨h.nd, List.nodup_cons.2 ⟨fun z => (nomatch z), List.nodup_nil⟩, fun x hx y hy => ?_⟩, fun q b m hb hm => ?_⟩
  · rw [List.mem_singleton.1 hy]
    exact fun z => na (z ▸ hx)
  · have hl := h.len
    rcases snoc_at hb with ⟨lb, hb'⟩ | ⟨rfl, rfl⟩
    · rw [List.getElem?_append_left (by omega)] at hm
      exact h.at_ q b m hb' hm
    · rw [List.getElem?_append_right (by omega), show ps.length - pl.length = 0 by omega] at hm
      cases hm
      exact ha
end Bk
set_option Elab.async false
/-! Bk68: rows looked for in lists of rows; the order of the law's plain tree. -/
namespace Bk
open PySem PySem.Spec PyProof.Rows L2
/-! ### lengths -/
theorem ones_sum (l : List Nat) : (l.map fun _ => 1).sum = l.length := by
  induction l with
  | nil => rfl
  | cons a l ih => rw [List.map_cons, List.sum_cons, ih, List.length_cons]; omega
theorem OrdOk.le {U : Tr} {ord : List Nat} (h : OrdOk U ord) : ord.length ≤ U.length := by
  have := sub_sum (fun _ => 1) ord (List.range U.length) h.nd fun b hb => List.mem_range.2 (h.lt b hb)
  rw [ones_sum, ones_sum, List.length_range] at this
  exact this
theorem up_len {n : Nat} : ∀ (S : List Nat) (lo : Nat), S.Pairwise (· < ·) → (∀ x ∈ S, lo ≤ x ∧ x < n) → S = [] ∨ S.length + lo ≤ n
  | [], _, _, _ => .inl rfl
  | a :: S, lo, hp, h => by
    obtain ⟨h1, h2⟩ := List.pairwise_cons.1 hp
    obtain ⟨a1, a2⟩ := h a List.mem_cons_self
    refine .inr ?_
    rcases up_len S (a + 1) h2 (fun x hx => ⟨h1 x hx, (h x (List.mem_cons_of_mem _ hx)).2⟩) with rfl | z
    · show 0 + 1 + lo ≤ n
      omega
    · rw [List.length_cons]
      omega
/-- the state of the law's plain walk -/
structure OSt (U : Tr) (k : Nat) (ord S : List Nat) : Prop where
  ok : OrdOk U ord
  up : S.Pairwise (· < ·)
  st : ∀ a ∈ S, a < U.length ∧ a ∉ ord
  fin : finO U S (rowsO U ord) = plT (trA U k)
theorem OSt.len {U : Tr} {k : Nat} {ord S : List Nat} (h : OSt U k ord S) : S.length ≤ U.length := by
  rcases up_len (n := U.length) S 0 h.up fun x hx => ⟨Nat.zero_le _, (h.st x hx).1⟩ with rfl | z
  · exact Nat.zero_le _
  · omega
theorem OSt.push {U : Tr} {k a : Nat} {ord S : List Nat} (ix : TrIdx U) (nd : U.Nodup) (h : OSt U k ord (a :: S)) {pre post : List Int} {p : Int} (e : (rowAt U a).2 = pre ++ p :: post) (hp : ∀ n ∈ pre, n.toNat ∈ ord) (np : p.toNat ∉ ord) : OSt U k ord (p.toNat :: a :: S) := by
  obtain ⟨la, _⟩ := h.st a List.mem_cons_self
  have ea := List.getElem?_eq_getElem la
  have lp : p.toNat < a := by
    have := (ix a _ ea).2 p (by rw [← rowAt_eq ea, e]; exact List.mem_append_right _ List.mem_cons_self)
    omega
  refine ⟨h.ok, List.pairwise_cons.2 ⟨fun x hx => ?_, h.up⟩, fun x hx => ?_, ?_⟩
  · rcases List.mem_cons.1 hx with rfl | hx
    · exact lp
    · have := (List.pairwise_cons.1 h.up).1 x hx
      omega
  · rcases List.mem_cons.1 hx with rfl | hx
    · exact ⟨by omega, np⟩
    · exact h.st x hx
  · have f := h.fin
    rw [← f]
    unfold finO
    rw [List.foldl_cons, List.foldl_cons, List.foldl_cons, ← ord_open ix nd h.ok la e hp]
theorem OSt.pop {U : Tr} {k a : Nat} {ord S : List Nat} (ix : TrIdx U) (nd : U.Nodup) (h : OSt U k ord (a :: S)) (hp : ∀ n ∈ (rowAt U a).2, n.toNat ∈ ord) : OSt U k (ord ++ [a]) S ∧ ord.length < U.length := by
  obtain ⟨la, na⟩ := h.st a List.mem_cons_self
  have ok := h.ok.snoc la na hp
  have le := ok.le
  rw [List.length_append, List.length_singleton] at le
  refine ⟨⟨ok, (List.pairwise_cons.1 h.up).2, fun x hx => ⟨(h.st x (List.mem_cons_of_mem _ hx)).1, fun z => ?_⟩, ?_⟩, by omega⟩
  · rcases List.mem_append.1 z with z | z
    · exact (h.st x (List.mem_cons_of_mem _ hx)).2 z
    · have := (List.pairwise_cons.1 h.up).1 x hx
      have := List.mem_singleton.1 z
      omega
  · rw [← h.fin]
    unfold finO
    rw [List.foldl_cons, ord_new ix nd h.ok la na hp]
end Bk
set_option Elab.async false
/-! Bk69: trees with one top; the law of k09. -/
namespace Bk
open PySem PySem.Spec PyProof.Rows L2
structure TrT (T : PT) (c : Tr) : Prop where
  pos : 0 < c.length
  few : c.length ≤ 400
  idx : TrIdx c
  top : trA c (c.length - 1) = T
  name : ∀ r ∈ c, TextOk r.1
theorem plain_top {t : Tr} (ok : TrIdx t) (h : 0 < t.length) : trA (plainF t) ((plainF t).length - 1) = trA t (t.length - 1) := by
  have pe := plain_end ok h
  have := pe.last PT (default : PT) PT.node
  unfold trA trP
  rw [List.getD_eq_getElem?_getD, List.getD_eq_getElem?_getD, this]
theorem TrT.plain {T : PT} {c : Tr} (h : TrT T c) : TrT T (plainF c) ∧ plainF c = plT T := by
  have pe := plain_end h.idx h.pos
  have l := pe.le
  have f := h.few
  refine ⟨⟨pe.pos, by omega, pe.idx, (plain_top h.idx h.pos).trans h.top, plain_names h.idx h.pos h.name⟩, ?_⟩
  rw [plainF_eq, h.top]
theorem TrT.row {nm : Str} {ps : List PT} {c : Tr} (h : TrT (.node nm ps) c) : (rowAt c (c.length - 1)).1 = nm ∧ (rowAt c (c.length - 1)).2.map (fun n => trA c n.toNat) = ps ∧ ps.length ≤ 2 := by
  have p := h.pos
  have er := List.getElem?_eq_getElem (l := c) (i := c.length - 1) (by omega)
  have e := h.top
  rw [trA_at h.idx er] at e
  injection e with e1 e2
  have r := rowAt_eq er
  rw [r]
  exact ⟨e1, e2, by rw [← e2, List.length_map]; exact (h.idx _ _ er).1⟩
theorem TrT.part {nm : Str} {ps : List PT} {c : Tr} (h : TrT (.node nm ps) c) : ∀ p ∈ ps, TrT p (plT p) ∧ (plT p).length ≤ c.length := fun p hp => by
  obtain ⟨_, e2, _⟩ := h.row
  rw [← e2] at hp
  obtain ⟨n, hn, rfl⟩ := List.mem_map.1 hp
  have q := h.pos
  have er := List.getElem?_eq_getElem (l := c) (i := c.length - 1) (by omega)
  rw [rowAt_eq er] at hn
  have ix := (h.idx _ _ er).2 n hn
  have l : (c.take (n.toNat + 1)).length = n.toNat + 1 := by rw [List.length_take]; omega
  have f := h.few
  have t : TrT (trA c n.toNat) (c.take (n.toNat + 1)) := ⟨by omega, by omega, h.idx.take _, by rw [l, Nat.add_sub_cancel]; exact trA_take (by omega) (Nat.lt_succ_self _), fun r hr => h.name r (List.mem_of_mem_take hr)⟩
  have z := t.plain
  have pl := (plain_end t.idx t.pos).le
  rw [z.2] at pl
  rw [z.2] at z
  exact ⟨z.1, by omega⟩
theorem TrT.size {T : PT} {c : Tr} (h : TrT T c) : (treeD c).size ≤ 2001 := by
  have := tree_size h.idx
  have := h.few
  omega
end Bk
set_option Elab.async false
/-! Bk70: patterns put into patterns. -/
namespace Bk
open PySem PySem.Spec PyProof.Rows L2
/-! ### values of patterns -/
/-! ### a pattern laid into rows -/
/-! ### a pattern with patterns put in -/
end Bk
set_option Elab.async false
set_option linter.all false
set_option maxRecDepth 100000
set_option maxHeartbeats 4000000
/-! Bk71: numbers and fractions as texts -/
namespace Bk
open PySem PySem.Spec PyProof.Rows L2
/-! ### numbers as texts -/
def numT (i : Int) : Str := ((toString i : String) : Str)
def numTL (i : Int) : List Nat := if i < 0 then 45 :: TL.numL i.natAbs else TL.numL i.natAbs
theorem numT_tl (i : Int) : (numT i).cps.toList = numTL i := by
  unfold numT numTL
  by_cases h : i < 0
  · rw [if_pos h]
    have e : (0 : Int) - i = ((i.natAbs : Nat) : Int) := by omega
    show TL.tl (Str.ofString (toString i)) = _
    rw [TL.tl_ofString, PyProof.Rows.toString_neg h, String.toList_append, List.map_append, ← TL.tl_ofString (toString (0 - i)), e, TL.tl_num]
    rfl
  · rw [if_neg h]
    have e : i = ((i.natAbs : Nat) : Int) := by omega
    show TL.tl (Str.ofString (toString i)) = _
    rw [e, TL.tl_num]
    rfl
theorem numTL_nat (n : Nat) : numTL (n : Int) = TL.numL n := by
  unfold numTL
  rw [if_neg (by omega)]
  rfl
theorem numTL_len {i : Int} {k : Nat} (hk : 0 < k) (h : i.natAbs < 10 ^ k) : (numTL i).length ≤ k + 1 := by
  have := TL.numL_len hk h
  unfold numTL
  split
  · rw [List.length_cons]; omega
  · omega
theorem numT_len {i : Int} {k : Nat} (hk : 0 < k) (h : i.natAbs < 10 ^ k) : (numT i).length ≤ k + 1 := by
  rw [str_len, numT_tl]
  exact numTL_len hk h
theorem numTL_sign {i : Int} : ∀ c ∈ numTL i, c = 45 ∨ (48 ≤ c ∧ c ≤ 57) := fun c hc => by
  unfold numTL at hc
  split at hc
  · rcases List.mem_cons.1 hc with h | h
    · exact .inl h
    · exact .inr (TL.numL_digits _ c h)
  · exact .inr (TL.numL_digits _ c hc)
theorem numL_head {n : Nat} (h : 0 < n) : (TL.numL n).headD 0 ≠ 48 := by
  induction n using Nat.strongRecOn with
  | _ n ih =>
    by_cases c : n < 10
    · rw [TL.numL_lt c]
      show 48 + n ≠ 48
      omega
    · rw [TL.numL_step (by omega)]
      have z := ih (n / 10) (by omega) (by omega)
      have ne := TL.numL_ne (n / 10)
      cases e : TL.numL (n / 10) with
      | nil => exact absurd e ne
      | cons a r =>
        rw [e] at z
        exact z
theorem numL_zero : TL.numL 0 = [48] := TL.numL_lt (by decide)
/-! ### figures -/
def figS : Str := "0123456789"
theorem fig_list : figS.cps.toList = [48, 49, 50, 51, 52, 53, 54, 55, 56, 57] := by decide +kernel
theorem fig_mem {c : Nat} : c ∈ figS.cps.toList ↔ 48 ≤ c ∧ c ≤ 57 := by
  rw [fig_list]
  simp only [List.mem_cons, List.not_mem_nil, or_false]
  omega
def isFigs (s : Str) : Bool := decide (0 < s.length ∧ s.length ≤ 30) && (s.cps.toList.all (fun c => decide (c ∈ figS.cps.toList)) && (decide (s = "0") || !decide (s.cps.toList.headD 0 = 48)))
theorem isFigs_iff {s : Str} : isFigs s = true ↔ (0 < s.length ∧ s.length ≤ 30) ∧ NumText.AllDigits s.cps.toList ∧ (s = "0" ∨ s.cps.toList.headD 0 ≠ 48) := by
  unfold isFigs
  rw [Bool.and_eq_true, Bool.and_eq_true, Bool.or_eq_true, decide_eq_true_eq, decide_eq_true_eq, Bool.not_eq_true', decide_eq_false_iff_not, List.all_eq_true]
  constructor
  · rintro ⟨a, b, c⟩
    exact ⟨a, fun x hx => fig_mem.1 (of_decide_eq_true (b x hx)), c⟩
  · rintro ⟨a, b, c⟩
    exact ⟨a, fun x hx => decide_eq_true (fig_mem.2 (b x hx)), c⟩
theorem zero_list : ("0" : Str).cps.toList = [48] := by decide +kernel
theorem numT_zero : numT 0 = "0" := str_ext (by rw [numT_tl, zero_list]; exact (numTL_nat 0).trans numL_zero)
theorem isFigs_num {n : Nat} (h : n < 10 ^ 30) : isFigs (numT (n : Int)) = true := by
  rw [isFigs_iff, str_len, numT_tl, numTL_nat]
  have l := TL.numL_len (by decide) h
  have z := TL.numL_ne n
  refine ⟨⟨List.length_pos_iff.2 z, l⟩, TL.numL_digits n, ?_⟩
  rcases Nat.eq_zero_or_pos n with e | e
  · subst e
    exact .inl numT_zero
  · exact .inr (numL_head e)
theorem fold_bound : ∀ (l : List Nat) (a : Nat), NumText.AllDigits l → a * 10 ^ l.length ≤ l.foldl (fun acc c => acc * 10 + (c - 48)) a ∧ l.foldl (fun acc c => acc * 10 + (c - 48)) a < (a + 1) * 10 ^ l.length
  | [], a, _ => by simp
  | c :: l, a, h => by
    have hc := h.head
    obtain ⟨z1, z2⟩ := fold_bound l (a * 10 + (c - 48)) h.tail
    rw [List.foldl_cons, List.length_cons, Nat.pow_succ]
    have p : 0 < 10 ^ l.length := Nat.pow_pos (by decide)
    constructor
    · refine Nat.le_trans ?_ z1
      rw [Nat.mul_comm (10 ^ l.length), ← Nat.mul_assoc]
      exact Nat.mul_le_mul_right _ (by omega)
    · refine Nat.lt_of_lt_of_le z2 ?_
      rw [Nat.mul_comm (10 ^ l.length), ← Nat.mul_assoc]
      exact Nat.mul_le_mul_right _ (by omega)
theorem digits_lt {l : List Nat} (h : NumText.AllDigits l) : NumText.digitsVal l < 10 ^ l.length := by
  have z := (fold_bound l 0 h).2
  rw [Nat.zero_add, Nat.one_mul] at z
  exact z
theorem digits_pos {l : List Nat} (h : NumText.AllDigits l) (hn : l ≠ []) (h0 : l.headD 0 ≠ 48) : 0 < NumText.digitsVal l := by
  cases l with
  | nil => exact absurd rfl hn
  | cons c l =>
    have hc := h.head
    have h0' : c ≠ 48 := h0
    have z := (fold_bound l (0 * 10 + (c - 48)) h.tail).1
    have p : 0 < 10 ^ l.length := Nat.pow_pos (by decide)
    refine Nat.lt_of_lt_of_le ?_ z
    exact Nat.mul_pos (by omega) p
/-- the number that a text writes -/
def intT (s : Str) : Int := (intText? s).getD 0
theorem int_digits {s : Str} (h : NumText.AllDigits s.cps.toList) (h1 : s.cps.toList ≠ []) (h2 : s.length ≤ 600) : intText? s = some (intT s) ∧ intT s = ((NumText.digitsVal s.cps.toList : Nat) : Int) := by
  have e := intText_digits h h1 (by omega)
  unfold intT
  rw [e]
  exact ⟨rfl, rfl⟩
theorem int_negs {s : Str} {cs : List Nat} (hx : s.cps.toList = 45 :: cs) (h : NumText.AllDigits cs) (h1 : cs ≠ []) (h2 : s.length ≤ 600) : intText? s = some (intT s) ∧ intT s = -((NumText.digitsVal cs : Nat) : Int) := by
  have e := intText_neg hx h h1 (by omega)
  unfold intT
  rw [e]
  exact ⟨rfl, rfl⟩
theorem intT_num {i : Int} {k : Nat} (h : i.natAbs < 10 ^ k) (hk : 0 < k) (hk2 : k ≤ 599) : intT (numT i) = i := by
  have l := Nat.le_trans (numT_len (i := i) hk h) (by omega : k + 1 ≤ 600)
  by_cases c : i < 0
  · have e : (numT i).cps.toList = 45 :: TL.numL i.natAbs := by rw [numT_tl]; exact if_pos c
    rw [(int_negs e (TL.numL_digits _) (TL.numL_ne _) l).2, TL.numL_val]
    omega
  · have e : (numT i).cps.toList = TL.numL i.natAbs := by rw [numT_tl]; exact if_neg c
    rw [(int_digits (by rw [e]; exact TL.numL_digits _) (by rw [e]; exact TL.numL_ne _) l).2, e, TL.numL_val]
    omega
/-! ### fractions as texts -/
def showFx (f : Fx) : Str := if f.2 = 1 then numT f.1 else numT f.1 ++ "/" ++ numT f.2
def hasSign (s : Str) : Bool := Txt.startswith s "-"
theorem starts_iff {x y : Str} (hy : y.cps.toList ≠ []) : Txt.startswith x y = (x.cps.toList.take y.cps.toList.length == y.cps.toList) := by
  rw [Bool.eq_iff_iff]
  have z := TL.at_iff (x := x) (y := y) hy 0
  rw [List.drop_zero] at z
  unfold TL.pre at z
  rw [← z]
  unfold Txt.startswith
  rw [Bool.and_eq_true, decide_eq_true_eq]
  rfl
theorem hasSign_cons {s : Str} {c : Nat} {r : List Nat} (h : s.cps.toList = c :: r) : hasSign s = decide (c = 45) := by
  unfold hasSign
  have e : ("-" : Str).cps.toList = [45] := by decide +kernel
  rw [starts_iff (by rw [e]; exact List.cons_ne_nil _ _), h, e]
  show ([c] == [45]) = _
  by_cases x : c = 45
  · subst x; rfl
  · rw [decide_eq_false x]
    simpa using x
theorem hasSign_nil {s : Str} (h : s.cps.toList = []) : hasSign s = false := by
  unfold hasSign
  have e : ("-" : Str).cps.toList = [45] := by decide +kernel
  rw [starts_iff (by rw [e]; exact List.cons_ne_nil _ _), h, e]
  rfl
/-- a fraction's text less its sign -/
def bareS (s : Str) : Str := cutS s (some (b2z (hasSign s))) none
theorem bareS_list (s : Str) : (bareS s).cps.toList = if s.cps.toList.headD 0 = 45 then s.cps.toList.drop 1 else s.cps.toList := by
  unfold bareS
  cases e : s.cps.toList with
  | nil =>
    rw [hasSign_nil e]
    have z := cut_from (z := s) (a := 0) (Nat.zero_le _)
    show (cutS s (some ((0 : Nat) : Int)) none).cps.toList = _
    rw [z, e]
    rfl
  | cons c r =>
    rw [hasSign_cons e]
    by_cases h : c = 45
    · rw [decide_eq_true h, if_pos (show (c :: r).headD 0 = 45 from h)]
      have z := cut_from (z := s) (a := 1) (by rw [str_len, e, List.length_cons]; omega)
      show (cutS s (some ((1 : Nat) : Int)) none).cps.toList = _
      rw [z, e]
    · rw [decide_eq_false h, if_neg (show (c :: r).headD 0 ≠ 45 from h)]
      have z := cut_from (z := s) (a := 0) (Nat.zero_le _)
      show (cutS s (some ((0 : Nat) : Int)) none).cps.toList = _
      rw [z, e]
      rfl
def lowS (p : Str × Str × Str) : Str := if p.2.1 = "" then "1" else p.2.2
def readFx (s : Str) : Option Fx :=
  if isFigs (bareS (Txt.partition s "/").1) = true ∧ isFigs (lowS (Txt.partition s "/")) = true ∧ lowS (Txt.partition s "/") ≠ "0" then
    (if showFx (lowF (intT (Txt.partition s "/").1) (intT (lowS (Txt.partition s "/")))) = s then some (lowF (intT (Txt.partition s "/").1) (intT (lowS (Txt.partition s "/")))) else none)
  else none
/-- figures with a sign or none: their number -/
theorem figs_int {s : Str} (h : isFigs (bareS s) = true) : intText? s = some (intT s) ∧ (intT s).natAbs < 10 ^ 30 ∧ s.length ≤ 31 := by
  obtain ⟨⟨l0, l1⟩, ad, _⟩ := isFigs_iff.1 h
  rw [str_len] at l0 l1
  rw [bareS_list] at l0 l1 ad
  by_cases c : s.cps.toList.headD 0 = 45
  · rw [if_pos c] at l0 l1 ad
    cases e : s.cps.toList with
    | nil => rw [e] at c; cases c
    | cons x r =>
      rw [e] at c l0 l1 ad
      obtain rfl : x = 45 := c
      replace ad : NumText.AllDigits r := ad
      replace l0 : 0 < r.length := l0
      replace l1 : r.length ≤ 30 := l1
      have ls : s.length = r.length + 1 := by rw [str_len, e]; rfl
      obtain ⟨a, b⟩ := int_negs e ad (List.length_pos_iff.1 l0) (by omega)
      refine ⟨a, ?_, by omega⟩
      rw [b, Int.natAbs_neg, Int.natAbs_natCast]
      exact Nat.lt_of_lt_of_le (digits_lt ad) (Nat.pow_le_pow_right (by decide) l1)
  · rw [if_neg c] at l0 l1 ad
    obtain ⟨a, b⟩ := int_digits ad (List.length_pos_iff.1 l0) (by rw [str_len]; omega)
    refine ⟨a, ?_, by rw [str_len]; omega⟩
    rw [b, Int.natAbs_natCast]
    exact Nat.lt_of_lt_of_le (digits_lt ad) (Nat.pow_le_pow_right (by decide) l1)
theorem figs_low {s : Str} (h : isFigs s = true) (h0 : s ≠ "0") : intText? s = some (intT s) ∧ 0 < intT s ∧ (intT s).natAbs < 10 ^ 30 ∧ s.length ≤ 30 := by
  obtain ⟨⟨l0, l1⟩, ad, hd⟩ := isFigs_iff.1 h
  have l0' := l0
  have l1' := l1
  rw [str_len] at l0' l1'
  have ne := List.length_pos_iff.1 l0'
  obtain ⟨a, b⟩ := int_digits ad ne (by omega)
  have p := digits_pos ad ne (hd.resolve_left h0)
  have q := digits_lt ad
  refine ⟨a, by rw [b]; omega, ?_, l1⟩
  rw [b, Int.natAbs_natCast]
  exact Nat.lt_of_lt_of_le q (Nat.pow_le_pow_right (by decide) l1')
theorem ten30 : (10 : Nat) ^ 30 < 2 ^ 100 := by decide
theorem slash_list : ("/" : Str).cps.toList = [47] := by decide +kernel
theorem numTL_free {i : Int} {c : Nat} (h : c ≠ 45) (h2 : c < 48 ∨ 57 < c) : c ∉ numTL i := fun z => by
  rcases numTL_sign c z with e | e
  · exact h e
  · omega
theorem bare_num (i : Int) : bareS (numT i) = numT ((i.natAbs : Nat) : Int) := by
  refine str_ext ?_
  rw [bareS_list, numT_tl, numT_tl, numTL_nat]
  unfold numTL
  by_cases h : i < 0
  · rw [if_pos h]
    exact if_pos rfl
  · rw [if_neg h]
    refine if_neg ?_
    have ne := TL.numL_ne i.natAbs
    cases e : TL.numL i.natAbs with
    | nil => exact absurd e ne
    | cons c r =>
      have := TL.numL_digits i.natAbs c (by rw [e]; exact List.mem_cons_self)
      show c ≠ 45
      omega
theorem num_ne_zero {n : Nat} (h : 0 < n) : numT (n : Int) ≠ "0" := fun e => by
  have z := congrArg (fun s : Str => s.cps.toList.headD 0) e
  rw [numT_tl, numTL_nat] at z
  refine numL_head h (z.trans ?_)
  rw [zero_list]
  rfl
theorem low_self {f : Fx} (h : LowF f) : lowF f.1 f.2 = f := by
  obtain ⟨a, b⟩ := (gcd_lowest h.1).2 h.2
  unfold lowF
  rw [a, b]
/-- THE READ-BACK of fractions -/
theorem readFx_show {f : Fx} (h : LowF f) (h1 : f.1.natAbs < 10 ^ 30) (h2 : f.2.natAbs < 10 ^ 30) : readFx (showFx f) = some f := by
  have b1 : isFigs (bareS (numT f.1)) = true := by rw [bare_num]; exact isFigs_num h1
  have i1 := intT_num (i := f.1) h1 (by decide) (by decide)
  by_cases c : f.2 = 1
  · have es : showFx f = numT f.1 := if_pos c
    have ep : Txt.partition (numT f.1) "/" = (numT f.1, Str.empty, Str.empty) := TL.partition_none slash_list (by
      show 47 ∉ (numT f.1).cps.toList
      rw [numT_tl]
      exact numTL_free (by decide) (.inl (by decide)))
    have e1 : lowS (numT f.1, Str.empty, Str.empty) = "1" := if_pos rfl
    have it : intT "1" = 1 := by
      have := intT_num (i := 1) (k := 1) (by decide) (by decide) (by decide)
      have e : numT 1 = "1" := by decide +kernel
      rw [e] at this
      exact this
    have ef : lowF f.1 1 = f := by
      have := low_self h
      rw [c] at this
      exact this
    unfold readFx
    rw [es, ep, e1]
    show (if isFigs (bareS (numT f.1)) = true ∧ _ then (if showFx (lowF (intT (numT f.1)) (intT "1")) = numT f.1 then some (lowF (intT (numT f.1)) (intT "1")) else none) else none) = some f
    rw [i1, it, ef, if_pos ⟨b1, by decide +kernel, by decide +kernel⟩, if_pos es]
  · have es : showFx f = numT f.1 ++ "/" ++ numT f.2 := if_neg c
    have ep : Txt.partition (numT f.1 ++ "/" ++ numT f.2) "/" = (numT f.1, ("/" : Str), numT f.2) := TL.partition_app slash_list (by
      show 47 ∉ (numT f.1).cps.toList
      rw [numT_tl]
      exact numTL_free (by decide) (.inl (by decide)))
    have e1 : lowS (numT f.1, ("/" : Str), numT f.2) = numT f.2 := if_neg (by show ("/" : Str) ≠ ""; decide +kernel)
    have e2 : f.2 = ((f.2.natAbs : Nat) : Int) := by have := h.1; omega
    have i2 := intT_num (i := f.2) h2 (by decide) (by decide)
    have b2 : isFigs (numT f.2) = true := by rw [e2]; exact isFigs_num h2
    have n0 : numT f.2 ≠ "0" := by rw [e2]; exact num_ne_zero (by have := h.1; omega)
    unfold readFx
    rw [es, ep, e1]
    show (if isFigs (bareS (numT f.1)) = true ∧ _ then (if showFx (lowF (intT (numT f.1)) (intT (numT f.2))) = numT f.1 ++ "/" ++ numT f.2 then some (lowF (intT (numT f.1)) (intT (numT f.2))) else none) else none) = some f
    rw [i1, i2, low_self h, if_pos ⟨b1, b2, n0⟩, if_pos es]
theorem readFx_some {s : Str} {f : Fx} (h : readFx s = some f) : LowF f ∧ f.1.natAbs < 10 ^ 30 ∧ f.2.natAbs < 10 ^ 30 ∧ showFx f = s := by
  unfold readFx at h
  split at h
  · rename_i c
    obtain ⟨c1, c2, c3⟩ := c
    obtain ⟨_, a2, _⟩ := figs_int c1
    obtain ⟨_, b2, b3, _⟩ := figs_low c2 c3
    generalize intT (Txt.partition s "/").1 = u at a2 h
    generalize intT (lowS (Txt.partition s "/")) = l at b2 b3 h
    split at h
    · rename_i d
      cases h
      have lp := low_parts (u := u) b2
      refine ⟨lowF_low b2, ?_, ?_, d⟩
      · refine Nat.lt_of_le_of_lt ?_ a2
        exact fdiv_le (fpt_ne (by omega)) (fpt_u u l)
      · refine Nat.lt_of_le_of_lt ?_ b3
        exact fdiv_le (fpt_ne (by omega)) (fpt_l u l)
    · cases h
  · cases h
end Bk
set_option Elab.async false
set_option linter.all false
set_option maxRecDepth 100000
set_option maxHeartbeats 4000000
/-! Bk72: int(t, 10), f-strings -/
namespace Bk
open PySem PySem.Spec PyProof.Rows L2
/-! ### int(t, 10) -/
/-! ### f-strings, str, int of texts -/
section
variable {K : PySem.W.Frag} {H : Hp} {Q : VK} {σ : L2.St}
/-- {x}: a text or an int -/
def uFmtV (x : V) (H : Hp) (Q : VK) : Prop := match x with
  | .str y => y.length ≤ 1000000 ∧ Q (.str y) H
  | .int i => i.natAbs.log2 < 1920 ∧ Q (.str (numT i)) H
  | _ => False
def uFmt (te : TE) : TE := fun σ H Q => te σ H fun x H1 => uFmtV x H1 Q
theorem g_fmt {te : TE} (h : te σ H fun x H1 => uFmtV x H1 Q) : uFmt te σ H Q := h
/-- f'..' -/
def uJs (ts : List TE) : TE := fun σ H Q => tJs ts Str.empty σ H fun out H1 => Q (.str out) H1
theorem pe_joinU {X : Cx} {v1 v2 : Expr} {rest : List Expr} {ts : List TE} {pos : Pos} (h : PJ X (v1 :: v2 :: rest) ts) : PE X (.JoinedStr (v1 :: v2 :: rest) pos) (uJs ts) := pe_joined h
theorem g_uJs {ts : List TE} (h : tJs ts Str.empty σ H fun out H1 => Q (.str out) H1) : uJs ts σ H Q := h
theorem g_js {t : TE} {ts : List TE} {acc : Str} {R : Str → Hp → Prop} (h : t σ H fun x H1 => ∃ y : Str, x = .str y ∧ (acc ++ y).length ≤ sizeLine ∧ tJs ts (acc ++ y) σ H1 R) : tJs (t :: ts) acc σ H R := h
theorem g_jn {acc : Str} {R : Str → Hp → Prop} (h : R acc H) : tJs [] acc σ H R := h
theorem g_jv {acc y : Str} {ts : List TE} {R : Str → Hp → Prop} (hl : acc.length + y.length ≤ 1000000) (h : tJs ts (acc ++ y) σ H R) : ∃ z : Str, V.str y = .str z ∧ (acc ++ z).length ≤ sizeLine ∧ tJs ts (acc ++ z) σ H R :=
  ⟨y, rfl, Nat.le_trans (by rw [app_len]; exact hl) (by decide), h⟩
def uStr : List V → Hp → VK → Prop := fun xs H Q => match xs with
  | [.int i] => i.natAbs.log2 < 1920 ∧ Q (.str (numT i)) H
  | [.non] => Q (.str "None") H
  | [.str z] => Q (.str z) H
  | _ => False
theorem uk_str {X : Cx} : CallR X (.type "str") uStr := by
  intro pins s σ H xs us Q I r h
  unfold uStr at h
  split at h
  · exact call_str_int pins s σ H _ us Q I r ⟨_, rfl, h.1, h.2⟩
  · obtain ⟨u, rfl, r1⟩ := vals1 r
    cases r1
    exact P.str_of_none ⟨.str "None", H, I.tok _, ⟨_, rfl⟩, h⟩
  · obtain ⟨u, rfl, r1⟩ := vals1 r
    obtain ⟨t1, rfl⟩ := r1
    exact P.str_of_str ⟨.str _, H, I, ⟨t1, rfl⟩, h⟩
  · exact h.elim
theorem g_str {i : Int} (hl : i.natAbs.log2 < 1920) (h : Q (.str (numT i)) H) : uStr [.int i] H Q := ⟨hl, h⟩
def uIntS : List V → Hp → VK → Prop := fun xs H Q => match xs with
  | [.str a] => intText? a = some (intT a) ∧ a.length ≤ 640 ∧ Q (.int (intT a)) H
  | _ => False
theorem uk_intS {X : Cx} : CallR X (.type "int") uIntS := by
  intro pins s σ H xs us Q I r h
  unfold uIntS at h
  split at h
  · exact call_int_str pins s σ H _ us Q I r ⟨_, _, rfl, h.1, h.2.1, h.2.2⟩
  · exact h.elim
theorem g_intS {a : Str} (hn : intText? a = some (intT a)) (hl : a.length ≤ 640) (h : Q (.int (intT a)) H) : uIntS [.str a] H Q := ⟨hn, hl, h⟩
end
theorem numT_bits {n : Nat} {i : Int} (h : Bits n i) (hn : 0 < n := by decide) : (numT i).length ≤ n + 1 := numT_len hn (Nat.lt_of_lt_of_le h (Nat.pow_le_pow_left (by decide) n))
theorem empty_len : Str.empty.length = 0 := rfl
theorem empty_app (s : Str) : Str.empty ++ s = s := str_ext (by rw [app_list]; rfl)
theorem log_of {i : Int} {n : Nat} (h : Bits n i) (hn : 0 < n) (hm : n ≤ 1900) : i.natAbs.log2 < 1920 := by
  have := h.log hn
  omega
end Bk
set_option Elab.async false
set_option linter.all false
set_option maxRecDepth 100000
set_option maxHeartbeats 4000000
/-! Bk73: readers as texts -/
namespace Bk
open PySem PySem.Spec PyProof.Rows L2
/-! ### pieces of a text cut at a sign -/
theorem par_len {s : Nat} : ∀ (l acc a b : List Nat), TL.par [s] acc l = some (a, b) → a.length + b.length + 1 = acc.length + l.length ∧ (∀ c ∈ a, c ∈ acc ∨ c ∈ l) ∧ ∀ c ∈ b, c ∈ l
  | [], acc, a, b, h => by cases h
  | c :: l, acc, a, b, h => by
    by_cases hp : TL.pre [s] (c :: l) = true
    · rw [TL.par_hit hp] at h
      cases h
      refine ⟨by simp only [List.length_cons, List.length_drop, List.length_nil]; omega, fun x hx => .inl hx, fun x hx => List.mem_cons_of_mem _ hx⟩
    · rw [TL.par_miss (by simpa using hp)] at h
      obtain ⟨z1, z2, z3⟩ := par_len l (acc ++ [c]) a b h
      rw [List.length_append] at z1
      refine ⟨by simp only [List.length_cons, List.length_nil] at z1 ⊢; omega, fun x hx => ?_, fun x hx => List.mem_cons_of_mem _ (z3 x hx)⟩
      rcases z2 x hx with q | q
      · rcases List.mem_append.1 q with q | q
        · exact .inl q
        · rw [List.mem_singleton.1 q]
          exact .inr List.mem_cons_self
      · exact .inr (List.mem_cons_of_mem _ q)
theorem part_ok {z y : Str} {s : Nat} (ey : y.cps.toList = [s]) : (Txt.partition z y).1.length ≤ z.length ∧ (Txt.partition z y).2.2.length ≤ z.length ∧ (∀ c ∈ (Txt.partition z y).1.cps.toList, c ∈ z.cps.toList) ∧ (∀ c ∈ (Txt.partition z y).2.2.cps.toList, c ∈ z.cps.toList) := by
  rw [TL.partition_par z y (by show y.cps.toList ≠ []; rw [ey]; exact List.cons_ne_nil _ _)]
  show _
  have e : TL.tl y = [s] := ey
  rw [e]
  cases h : TL.par [s] [] (TL.tl z) with
  | none =>
    exact ⟨Nat.le_refl _, Nat.zero_le _, fun c hc => hc, fun c hc => (nomatch hc)⟩
  | some p =>
    obtain ⟨a, b⟩ := p
    obtain ⟨z1, z2, z3⟩ := par_len _ _ _ _ h
    have l := str_len z
    simp only [List.length_nil, Nat.zero_add] at z1
    replace z1 : a.length + b.length + 1 = z.cps.toList.length := z1
    refine ⟨?_, ?_, fun c hc => ?_, fun c hc => ?_⟩
    · show (⟨a.toArray⟩ : Str).length ≤ _
      rw [str_len]
      show a.length ≤ _
      omega
    · show (⟨b.toArray⟩ : Str).length ≤ _
      rw [str_len]
      show b.length ≤ _
      omega
    · rcases z2 c hc with q | q
      · cases q
      · exact q
    · exact z3 c hc
theorem cutS_len (z : Str) (lo hi : Option Int) : (cutS z lo hi).length ≤ z.length := L2.cutS_length z lo hi
/-! ### terms, sums, rows as texts -/
def wordT (p : Nat) (b : Int) : Str := numT (p : Int) ++ "." ++ numT b
def wordsT : Nat → List (Option Int) → List Str
  | _, [] => []
  | n, none :: bs => wordsT (n + 1) bs
  | n, some b :: bs => wordT n b :: wordsT (n + 1) bs
def termT (t : Tm) : Str := Txt.join " " (showFx t.1 :: wordsT 0 t.2)
/-! ### reading -/
/-- a term that is read back -/
structure TmW (many : Nat) (t : Tm) : Prop where
  low : LowF t.1
  upper : t.1.1.natAbs < 10 ^ 30
  lower : t.1.2.natAbs < 10 ^ 30
  len : t.2.length = many
  box : ∀ b : Int, some b ∈ t.2 → 0 ≤ b ∧ b < 100
/-! ### sums -/
end Bk
set_option Elab.async false
set_option linter.all false
set_option maxRecDepth 100000
set_option maxHeartbeats 4000000
/-! Bk74: contracts of readers as texts -/
namespace Bk
open PySem PySem.Spec PyProof.Rows L2
def spIsFigs : Sp := fun vs H Q _ => ∃ z : Str, vs = [.str z] ∧ z.length ≤ 500000 ∧ ∀ H', Ex H H' → Q (.bl (isFigs z)) H'
def spReadFx (C : Addr) : Sp := fun vs H Q E => ∃ z : Str, vs = [.str z] ∧ z.length ≤ 500000 ∧ (readFx z = none → ∀ d H', Ex H H' → H' d = some (.xd [("row", .int 0)]) → E (.ref C) (some d) H') ∧
  ∀ f, readFx z = some f → ∀ q H', Ex H H' → H' q = some (.tup [.int f.1, .int f.2]) → Q (.ref q) H'
theorem wordsT_len : ∀ (bs : List (Option Int)) (n : Nat), (wordsT n bs).length ≤ bs.length
  | [], _ => Nat.le_refl _
  | none :: bs, n => Nat.le_succ_of_le (wordsT_len bs (n + 1))
  | some b :: bs, n => Nat.succ_le_succ (wordsT_len bs (n + 1))
theorem small_bits {n : Nat} (h : n ≤ 1000) : Bits 10 (n : Int) := by
  show n < 2 ^ 10
  omega
theorem wordT_len {n : Nat} {b : Int} (hn : n ≤ 1000) (h : Bits 100 b) : (wordT n b).length ≤ 200 := by
  have l1 := numT_bits (small_bits hn)
  have l2 := numT_bits h
  unfold wordT
  rw [app_len, app_len]
  show _ + 1 + _ ≤ _
  omega
theorem wordsT_in : ∀ (bs : List (Option Int)) (n : Nat) (s : Str), s ∈ wordsT n bs → ∃ k b, s = wordT k b ∧ k < n + bs.length ∧ some b ∈ bs
  | [], _, _, h => by cases h
  | none :: bs, n, s, h => by
    obtain ⟨k, b, e, hk, hb⟩ := wordsT_in bs (n + 1) s h
    exact ⟨k, b, e, by rw [List.length_cons]; omega, List.mem_cons_of_mem _ hb⟩
  | some b :: bs, n, s, h => by
    rcases List.mem_cons.1 h with rfl | h
    · exact ⟨n, b, rfl, by rw [List.length_cons]; omega, List.mem_cons_self⟩
    · obtain ⟨k, b, e, hk, hb⟩ := wordsT_in bs (n + 1) s h
      exact ⟨k, b, e, by rw [List.length_cons]; omega, List.mem_cons_of_mem _ hb⟩
theorem showFx_len {f : Fx} {n : Nat} (h1 : Bits n f.1) (h2 : Bits n f.2) (hn : 0 < n := by decide) : (showFx f).length ≤ 2 * n + 3 := by
  have l1 := numT_bits h1 hn
  have l2 := numT_bits h2 hn
  unfold showFx
  split
  · omega
  · rw [app_len, app_len]
    show _ + 1 + _ ≤ _
    omega
theorem rep_flat {α : Type} (x : α) : ∀ n : Nat, (List.replicate n [x]).flatten = List.replicate n x
  | 0 => rfl
  | n + 1 => by rw [List.replicate_succ, List.flatten_cons, rep_flat x n, List.replicate_succ]; rfl
end Bk
set_option Elab.async false
set_option linter.all false
set_option maxRecDepth 100000
set_option maxHeartbeats 4000000
/-! Bk75: how long readers' texts are -/
namespace Bk
open PySem PySem.Spec PyProof.Rows L2
/-! ### raised within an except suite -/
theorem g_iS {i j : Int} {gg : Int → Int → V} {C : Int → Int → Prop} {H : Hp} {Q : VK} (hc : C i j) (h : Q (gg i j) H) : uI C gg (.int i) (.int j) H Q := ⟨hc, h⟩
/-! ### loops that nothing leaves: what stands behind them is out of sight -/
/-! ### how long the texts are -/
structure TmL (t : Tm) : Prop where
  upper : Bits 10 t.1.1
  lower : Bits 10 t.1.2
  two : t.2.length ≤ 2
  box : ∀ b : Int, some b ∈ t.2 → Bits 10 b
theorem TmL.len {t : Tm} (h : TmL t) : (termT t).length ≤ 700 := by
  have l1 := showFx_len h.upper h.lower
  have l2 := wordsT_len t.2 0
  have l3 := h.two
  have z := join_len (y := " ") (ps := showFx t.1 :: wordsT 0 t.2) (b := 200) fun s hs => by
    rcases List.mem_cons.1 hs with rfl | hs
    · omega
    · obtain ⟨k, b, rfl, hk, hb⟩ := wordsT_in _ _ _ hs
      exact wordT_len (by omega) ((h.box b hb).le (by decide))
  have e : (" " : Str).length = 1 := by decide
  rw [List.length_cons, e] at z
  have := Nat.mul_le_mul_right 201 (by omega : (wordsT 0 t.2).length + 1 ≤ 3)
  exact Nat.le_trans z (by omega)
theorem FxOk.small {f : Fx} (h : FxOk f) : f.1.natAbs < 10 ^ 30 ∧ f.2.natAbs < 10 ^ 30 := by
  obtain ⟨a, b, c, d⟩ := h
  exact ⟨by omega, by omega⟩
theorem TmOk.w {w : Wd} (ok : WoodOk w) {r : Rd} (h : RdOk w r) {e : Nat × Mk} (he : e ∈ tabFrom 0 w) {t : Tm} (k : TmOk r.1 (dueOf w e) t) : TmW e.2.2.length t := by
  obtain ⟨d1, d2, d3, d4⟩ := dueOf_in ok he
  have tl := k.len
  refine ⟨k.num.low, k.num.small.1, k.num.small.2, tl.trans d2, fun bb hb => ?_⟩
  obtain ⟨u, hu⟩ := List.mem_iff_getElem?.1 hb
  have lu := (List.getElem?_eq_some_iff.1 hu).1
  have eu := List.getElem?_eq_getElem (l := dueOf w e) (i := u) (by omega)
  have z := List.all_eq_true.1 k.box _ (List.mem_of_getElem? (zip_at eu hu))
  replace z : decide (0 ≤ bb ∧ bb < cntAt r.1 ((dueOf w e)[u]'(by omega))) = true := z
  have z2 := of_decide_eq_true z
  obtain ⟨q0, q1⟩ := d4 _ (List.getElem_mem (by omega : u < (dueOf w e).length))
  have c5 : cntAt r.1 ((dueOf w e)[u]'(by omega)) ≤ 4 := by
    unfold cntAt
    rw [List.getD_eq_getElem?_getD, List.getElem?_eq_getElem (by rw [h.counts]; omega)]
    exact (h.count _ (List.getElem_mem _)).2
  omega
/-! ### a reader that is let by -/
/-! ### how great a reader is -/
def AskedR (H : Hp) (x : V) : Prop := ∃ (a : Addr) (w : Wd) (r : Rd) (wv rv : V), x = .ref a ∧ H a = some (.tup [wv, rv]) ∧ Rep H (woodD w) wv ∧ WoodOk w ∧ Rep H (rdD r) rv ∧ RdOk w r
theorem AskedR.tk {H H' : Hp} {x : V} (h : AskedR H x) (e : Tk H H') : AskedR H' x := by
  obtain ⟨a, w, r, wv, rv, h1, h2, h3, h4, h5, h6⟩ := h
  exact ⟨a, w, r, wv, rv, h1, e _ _ h2, h3.tk e (wood_hard w), h4, h5.tk e (rd_hard r), h6⟩
end Bk
set_option Elab.async false
set_option linter.all false
set_option maxRecDepth 100000
set_option maxHeartbeats 4000000
/-! Bk76: fractions as rational numbers -/
namespace Bk
open PySem PySem.Spec PyProof.Rows L2
/-! ### fractions as rational numbers -/
def ratV (f : Fx) : Rat := Rat.divInt f.1 f.2
theorem ratV_low {u l : Int} (h : 0 < l) : ratV (lowF u l) = Rat.divInt u l := by
  obtain ⟨a, b, c, d⟩ := low_parts (u := u) h
  unfold ratV
  have g0 : ((Int.gcd u l : Nat) : Int) ≠ 0 := by
    have : 0 < Int.gcd u l := Int.gcd_pos_of_ne_zero_right _ (by omega)
    omega
  have z := Rat.divInt_mul_right (n := fru u l) (d := frl u l) (a := ((Int.gcd u l : Nat) : Int)) g0
  rw [a, b] at z
  exact z.symm
theorem ratV_add {f g : Fx} (hf : 0 < f.2) (hg : 0 < g.2) : ratV (addF f g) = ratV f + ratV g := by
  unfold addF
  rw [ratV_low (Int.mul_pos hf hg)]
  unfold ratV
  rw [Rat.divInt_add_divInt _ _ (by omega) (by omega)]
theorem ratV_int (n : Int) : ratV (n, 1) = (n : Rat) := by
  show Rat.divInt n ((1 : Nat) : Int) = _
  rw [Rat.divInt_ofNat]
  exact Rat.mkRat_self (n : Rat)
/-! ### what sums of products come to -/
def prodQ : List (List Fx × Option Int) → Rat
  | [] => 1
  | x :: l => (match x.2 with | none => 1 | some i => ratV (x.1.getD i.toNat (0, 1))) * prodQ l
def PosP (parts : List (List Fx)) : Prop := ∀ p ∈ parts, ∀ f ∈ p, 0 < f.2
def termQ (parts : List (List Fx)) (t : Tm) : Rat := ratV t.1 * prodQ (parts.zip t.2)
def sumQ (parts : List (List Fx)) : Sm → Rat
  | [] => 0
  | t :: s => termQ parts t + sumQ parts s
theorem sumQ_app (parts : List (List Fx)) : ∀ s r : Sm, sumQ parts (s ++ r) = sumQ parts s + sumQ parts r
  | [], r => (Rat.zero_add _).symm
  | t :: s, r => by
    show termQ parts t + sumQ parts (s ++ r) = termQ parts t + sumQ parts s + sumQ parts r
    rw [sumQ_app parts s r, Rat.add_assoc]
theorem sumQ_perm (parts : List (List Fx)) {s r : Sm} (h : s.Perm r) : sumQ parts s = sumQ parts r := by
  induction h with
  | nil => rfl
  | cons x _ ih =>
    show termQ parts x + _ = termQ parts x + _
    rw [ih]
  | swap x y l =>
    show termQ parts y + (termQ parts x + sumQ parts l) = termQ parts x + (termQ parts y + sumQ parts l)
    rw [Rat.add_left_comm]
  | trans _ _ a b => exact a.trans b
end Bk
set_option Elab.async false
set_option linter.all false
set_option maxRecDepth 100000
set_option maxHeartbeats 4000000
/-! Bk77: readers with greater numbers; copies of rows -/
namespace Bk
open PySem PySem.Spec PyProof.Rows L2
/-! ### readers with somewhat greater numbers -/
structure TmG (cs ps : List Int) (t : Tm) : Prop where
  low : LowF t.1
  upper : t.1.1.natAbs ≤ 2000
  lower : t.1.2 ≤ 100
  len : t.2.length = ps.length
  box : (ps.zip t.2).all (boxOk cs) = true
structure RdG (w : Wd) (r : Rd) : Prop where
  counts : r.1.length = w.length
  count : ∀ c ∈ r.1, 0 ≤ c ∧ c ≤ 4
  rules : r.2.length = (tabFrom 0 w).length
  rule : ∀ (j : Nat) (e : Nat × Mk) (x : Rl), (tabFrom 0 w)[j]? = some e → r.2[j]? = some x → (x.length : Int) = cntAt r.1 e.1 ∧ ∀ s ∈ x, s.length ≤ 6 ∧ ∀ t ∈ s, TmG r.1 (dueOf w e) t
theorem cnt_leG {w : Wd} {r : Rd} (h : RdG w r) {n : Int} (h0 : 0 ≤ n) (h1 : n < (w.length : Nat)) : 0 ≤ cntAt r.1 n ∧ cntAt r.1 n ≤ 4 := by
  unfold cntAt
  rw [List.getD_eq_getElem?_getD, List.getElem?_eq_getElem (by rw [h.counts]; omega)]
  exact h.count _ (List.getElem_mem _)
theorem RdG.many {w : Wd} (ok : WoodOk w) {r : Rd} (h : RdG w r) {j : Nat} {e : Nat × Mk} {x : Rl} (h1 : (tabFrom 0 w)[j]? = some e) (h2 : r.2[j]? = some x) : x.length ≤ 4 := by
  obtain ⟨a, _⟩ := h.rule j e x h1 h2
  obtain ⟨d1, _⟩ := dueOf_in ok (List.mem_of_getElem? h1)
  have := cnt_leG h (n := ((e.1 : Nat) : Int)) (by omega) (by omega)
  omega
/-! ### what a row reads, and where it is used -/
end Bk
set_option Elab.async false
set_option linter.all false
set_option maxRecDepth 100000
set_option maxHeartbeats 4000000
/-! Bk78: the same by other terms; boxes in another order -/
namespace Bk
open PySem PySem.Spec PyProof.Rows L2
/-! ### sums that come to the same -/
theorem RdG.pos {w : Wd} {r : Rd} (h : RdG w r) {j : Nat} {e : Nat × Mk} {x : Rl} (h1 : (tabFrom 0 w)[j]? = some e) (h2 : r.2[j]? = some x) : ∀ s ∈ x, ∀ t ∈ s, 0 < t.1.2 := fun s hs t ht => (((h.rule j e x h1 h2).2 s hs).2 t ht).low.1
/-! ### boxes in another order -/
structure OrdR (w : Wd) (r : Rd) (os : List (List Int)) : Prop where
  len : os.length = w.length
  all : ∀ (k : Nat) (ks : List Int), os[k]? = some ks → (ks.length : Int) = cntAt r.1 (k : Nat) ∧ ∀ n : Int, n ∈ ks ↔ 0 ≤ n ∧ n < cntAt r.1 (k : Nat)
section
variable {w : Wd} {r : Rd} {os : List (List Int)}
theorem OrdR.get (h : OrdR w r os) {n : Int} (h0 : 0 ≤ n) (h1 : n < (w.length : Nat)) : ((os.getD n.toNat []).length : Int) = cntAt r.1 n ∧ ∀ m : Int, m ∈ os.getD n.toNat [] ↔ 0 ≤ m ∧ m < cntAt r.1 n := by
  have lt : n.toNat < os.length := by rw [h.len]; omega
  have e := List.getElem?_eq_getElem lt
  have z := h.all n.toNat _ e
  rw [List.getD_eq_getElem?_getD, e]
  rw [Int.toNat_of_nonneg h0] at z
  exact z
end
end Bk
set_option Elab.async false
set_option linter.all false
set_option maxRecDepth 100000
set_option maxHeartbeats 4000000
/-! Bk79: terms otherwise, orders -/
namespace Bk
open PySem PySem.Spec PyProof.Rows L2
/-! ### rows in another order -/
/-! ### sums that come to the same -/
theorem sumQ_part (parts : List (List Fx)) {f : Fx} (hf : 0 < f.2) (k : Int) (b : List (Option Int)) : termQ parts (addF f (0 - k, 1), b) + termQ parts ((k, 1), b) = termQ parts (f, b) := by
  unfold termQ
  rw [ratV_add hf (show (0 : Int) < 1 by decide), ratV_int, ratV_int, Int.zero_sub, Rat.intCast_neg]
  generalize prodQ (parts.zip _) = P
  grind
def SameS (s s' : Sm) : Prop := ∀ parts, PosP parts → sumQ parts s = sumQ parts s'
theorem SameS.perm {s s' : Sm} (h : s.Perm s') : SameS s s' := fun parts _ => sumQ_perm parts h
theorem SameS.trans {s s' s'' : Sm} (h : SameS s s') (h' : SameS s' s'') : SameS s s'' := fun parts k => (h parts k).trans (h' parts k)
theorem SameS.part {s : Sm} {f : Fx} {b : List (Option Int)} (hf : 0 < f.2) (k : Int) : SameS (s ++ [(addF f (0 - k, 1), b), ((k, 1), b)]) (s ++ [(f, b)]) := fun parts _ => by
  rw [sumQ_app, sumQ_app]
  show _ + (termQ parts (addF f (0 - k, 1), b) + (termQ parts ((k, 1), b) + 0)) = _ + (termQ parts (f, b) + 0)
  rw [Rat.add_zero, Rat.add_zero, sumQ_part parts hf]
theorem lowN (k : Int) : LowF (k, 1) := ⟨by show (0 : Int) < 1; decide, by show Int.gcd k 1 = 1; rw [Int.gcd_one_right]⟩
theorem TmG.num {cs ps : List Int} {t : Tm} (h : TmG cs ps t) {k : Int} (hk : k.natAbs ≤ 5) : TmG cs ps ((k, 1), t.2) := ⟨lowN k, by show k.natAbs ≤ 2000; omega, by show (1 : Int) ≤ 100; decide, h.len, h.box⟩
/-- a list of terms under way -/
structure OtSt (p L : Addr) (H0 H : Hp) (cs ps : List Int) (s0 s : Sm) (vs : List V) : Prop where
  lst : H L = some (.lst vs)
  rep : Reps H (s.map tmD) vs
  but : But p H0 H
  box : Box H p
  ok : ∀ t ∈ s, TmG cs ps t
  same : SameS s s0
theorem OtSt.len {p L : Addr} {H0 H : Hp} {cs ps : List Int} {s0 s : Sm} {vs : List V} (h : OtSt p L H0 H cs ps s0 s vs) : vs.length = s.length := by rw [h.rep.len, List.length_map]
theorem OtSt.ex {p L : Addr} {H0 H H' : Hp} {cs ps : List Int} {s0 s : Sm} {vs : List V} (h : OtSt p L H0 H cs ps s0 s vs) (e : Ex H H') : OtSt p L H0 H' cs ps s0 s vs := ⟨e _ _ h.lst, h.rep.ex e, h.but.trans (e.but p), h.box.ex e, h.ok, h.same⟩
theorem OtSt.by {p L : Addr} {H0 H H' : Hp} {cs ps : List Int} {s0 s : Sm} {vs : List V} (h : OtSt p L H0 H cs ps s0 s vs) (hL : H0 L = none) (n : L ≠ p) (b : But p H H') (hb : Box H' p) : OtSt p L H0 H' cs ps s0 s vs := ⟨b _ _ n h.lst, h.rep.tkm (h.box.tk b) tm_hard, h.but.trans b, hb, h.ok, h.same⟩
theorem SameS.refl (s : Sm) : SameS s s := fun _ _ => rfl
end Bk
set_option Elab.async false
set_option linter.all false
set_option maxRecDepth 100000
set_option maxHeartbeats 4000000
/-! Bk80: k18: what the law asks -/
namespace Bk
open PySem PySem.Spec PyProof.Rows L2
theorem SzsOk.mono {a b : Int} {t : Tr} {szs : List Int} (h : SzsOk a t szs) (hab : a ≤ b) : SzsOk b t szs := ⟨fun s hs => ⟨(h.le s hs).1, Int.le_trans (h.le s hs).2 hab⟩, h.row⟩
/-- the orders drawn -/
structure OrSt (w : Wd) (r : Rd) (H : Hp) (as : List Addr) (os : List (List Int)) : Prop where
  len : as.length = os.length
  lst : ∀ (k : Nat) (b : Addr) (o : List Int), as[k]? = some b → os[k]? = some o → H b = some (.lst (o.map V.int))
  perm : ∀ (k : Nat) (o : List Int), os[k]? = some o → (o.length : Int) = cntAt r.1 (k : Nat) ∧ ∀ n : Int, n ∈ o ↔ 0 ≤ n ∧ n < cntAt r.1 (k : Nat)
theorem OrSt.snoc {w : Wd} {r : Rd} {H H' : Hp} {as : List Addr} {os : List (List Int)} {a : Addr} {o : List Int} (h : OrSt w r H as os) (keep : ∀ b ∈ as, ∀ x, H b = some x → H' b = some x) (ha : H' a = some (.lst (o.map V.int))) (hp : (o.length : Int) = cntAt r.1 ((os.length : Nat) : Int) ∧ ∀ n : Int, n ∈ o ↔ 0 ≤ n ∧ n < cntAt r.1 ((os.length : Nat) : Int)) : OrSt w r H' (as ++ [a]) (os ++ [o]) := by
  refine ⟨by rw [List.length_append, List.length_append, h.len]; rfl, fun k b p e1 e2 => ?_, fun k p e2 => ?_⟩
  · by_cases c : k < as.length
    · rw [List.getElem?_append_left c] at e1
      rw [List.getElem?_append_left (by rw [← h.len]; exact c)] at e2
      exact keep b (List.mem_of_getElem? e1) _ (h.lst k b p e1 e2)
    · rw [List.getElem?_append_right (by omega)] at e1
      rw [List.getElem?_append_right (by rw [← h.len]; omega), ← h.len] at e2
      have z : k - as.length = 0 := by
        have := (List.getElem?_eq_some_iff.1 e1).1
        rw [List.length_singleton] at this
        omega
      rw [z] at e1 e2
      cases e1
      cases e2
      exact ha
  · by_cases c : k < os.length
    · rw [List.getElem?_append_left c] at e2
      exact h.perm k p e2
    · rw [List.getElem?_append_right (by omega)] at e2
      have lz := (List.getElem?_eq_some_iff.1 e2).1
      rw [List.length_singleton] at lz
      have z : k = os.length := by omega
      subst z
      rw [Nat.sub_self] at e2
      cases e2
      exact hp
end Bk
set_option Elab.async false
set_option linter.all false
set_option maxRecDepth 100000
set_option maxHeartbeats 4000000
/-! Bk81: methods of own classes, slices stored, dict.get, tuples many times over -/
namespace Bk
open PySem PySem.Spec PyProof.Rows L2
/-! ### own classes -/
/-! ### slices stored -/
/-! ### dict.get -/
/-! ### tuple * n, short tuples many times over -/
end Bk
set_option Elab.async false
set_option linter.all false
set_option maxRecDepth 100000
set_option maxHeartbeats 4000000
/-! Bk82: trees as words -/
namespace Bk
open PySem PySem.Spec PyProof.Rows L2
/-! ### a tree's word -/
def wordF : Str → List (List Str) → List Str := fun s ws => ws.flatten ++ [s]
def wordP (p : PT) : List Str := evT wordF p
theorem wordP_node (s : Str) (ps : List PT) : wordP (.node s ps) = (ps.map wordP).flatten ++ [s] := by
  unfold wordP
  rw [evT_node]
  rfl
def sizeP (p : PT) : Int := evT szf p
theorem sizeP_node (s : Str) (ps : List PT) : sizeP (.node s ps) = 1 + (ps.map sizeP).sum := by
  unfold sizeP
  rw [evT_node]
  rfl
mutual
theorem wordP_len : ∀ p : PT, ((wordP p).length : Int) = sizeP p
  | .node s ps => by
    rw [wordP_node, sizeP_node, List.length_append]
    have := wordP_lens ps
    show ((_ + 1 : Nat) : Int) = _
    omega
theorem wordP_lens : ∀ ps : List PT, ((ps.map wordP).flatten.length : Int) = (ps.map sizeP).sum
  | [] => rfl
  | p :: ps => by
    have h1 := wordP_len p
    have h2 := wordP_lens ps
    rw [List.map_cons, List.flatten_cons, List.length_append, List.map_cons, List.sum_cons]
    omega
end
theorem size_pos (p : PT) : 1 ≤ sizeP p := by
  cases p with
  | node s ps =>
    rw [← wordP_len, wordP_node, List.length_append]
    show 1 ≤ ((_ + 1 : Nat) : Int)
    omega
/-! ### reading a word -/
abbrev Nm := Str × Option Int
structure StN where
  rows : Tr
  pile : List (Int × Int)
def stepN (w : Wd) (s : StN) (n : Nm) : Option StN := match mkOf w n.1 with
  | none => none
  | some e =>
    if (dueOf w e).length ≤ s.pile.length ∧ (n.2 = none ∨ n.2 = some (((dueOf w e).length : Nat) : Int)) ∧ (s.pile.drop (s.pile.length - (dueOf w e).length)).map Prod.fst = dueOf w e then
      some ⟨s.rows ++ [(n.1, (s.pile.drop (s.pile.length - (dueOf w e).length)).map Prod.snd)], s.pile.take (s.pile.length - (dueOf w e).length) ++ [(((e.1 : Nat) : Int), ((s.rows.length : Nat) : Int))]⟩
    else none
/-- what stands while a word is read -/
structure NInv (w : Wd) (s : StN) : Prop where
  idx : TrIdx s.rows
  name : ∀ r ∈ s.rows, ∃ e, mkOf w r.1 = some e
  pile : ∀ p ∈ s.pile, 0 ≤ p.2 ∧ p.2 < (s.rows.length : Nat) ∧ p.1 = kindAt w (rowAt s.rows p.2.toNat).1
theorem NInv.nil (w : Wd) : NInv w ⟨[], []⟩ := ⟨fun i r h => by simp at h, fun r h => (nomatch h), fun p h => (nomatch h)⟩
theorem rowAt_app {t e : Tr} {a : Nat} (h : a < t.length) : rowAt (t ++ e) a = rowAt t a := by
  unfold rowAt
  rw [List.getD_eq_getElem?_getD, List.getD_eq_getElem?_getD, List.getElem?_append_left h]
theorem rowAt_new {t : Tr} {r : Str × List Int} : rowAt (t ++ [r]) t.length = r := rowAt_eq (by rw [List.getElem?_append_right (Nat.le_refl _), Nat.sub_self]; rfl)
theorem NInv.step {w : Wd} (ok : WoodOk w) {s s' : StN} {n : Nm} (h : NInv w s) (e : stepN w s n = some s') : NInv w s' ∧ s'.rows.length = s.rows.length + 1 ∧ s'.pile.length ≤ s.pile.length + 1 := by
  unfold stepN at e
  split at e
  · cases e
  · rename_i m hm
    split at e
    · rename_i c
      cases e
      have d2 := due_two ok (mkOf_some hm).1
      refine ⟨⟨h.idx.snoc ?_ fun x hx => ?_, fun r hr => ?_, fun p hp => ?_⟩, by rw [List.length_append]; rfl, by rw [List.length_append, List.length_take]; show _ + 1 ≤ _; omega⟩
      · show (List.map _ _).length ≤ 2
        rw [List.length_map, List.length_drop]
        omega
      · obtain ⟨p, hp, rfl⟩ := List.mem_map.1 hx
        obtain ⟨a, b, _⟩ := h.pile p (List.mem_of_mem_drop hp)
        exact ⟨a, b⟩
      · rcases List.mem_append.1 hr with hr | hr
        · exact h.name r hr
        · rw [List.mem_singleton.1 hr]
          exact ⟨m, hm⟩
      · have lr : (s.rows ++ [(n.1, (s.pile.drop (s.pile.length - (dueOf w m).length)).map Prod.snd)]).length = s.rows.length + 1 := by rw [List.length_append]; rfl
        rcases List.mem_append.1 hp with hp | hp
        · obtain ⟨a, b, c⟩ := h.pile p (List.mem_of_mem_take hp)
          exact ⟨a, by rw [lr]; omega, by rw [rowAt_app (by omega)]; exact c⟩
        · rw [List.mem_singleton.1 hp]
          refine ⟨Int.natCast_nonneg _, by rw [lr]; show ((s.rows.length : Nat) : Int) < _; omega, ?_⟩
          show ((m.1 : Nat) : Int) = kindAt w (rowAt _ (((s.rows.length : Nat) : Int).toNat)).1
          rw [Int.toNat_natCast, rowAt_new]
          show _ = kindAt w n.1
          unfold kindAt
          rw [hm]
    · cases e
/-! ### a tree's word, read -/
theorem trA_pre {t e : Tr} {a : Nat} (h : a < t.length) : trA (t ++ e) a = trA t a := by
  have z := trA_take (t := t ++ e) (k := t.length) (by rw [List.length_append]; omega) h
  rw [List.take_left] at z
  exact z.symm
end Bk
set_option Elab.async false
set_option linter.all false
set_option maxRecDepth 100000
set_option maxHeartbeats 4000000
/-! Bk83: words: what stands on the stack, contracts of k10 -/
namespace Bk
open PySem PySem.Spec PyProof.Rows L2
/-! ### the stack of word_of -/
/-! ### contracts -/
end Bk
set_option Elab.async false
set_option linter.all false
set_option maxRecDepth 100000
set_option maxHeartbeats 4000000
/-! Bk84: ints compared, slices from a place on, what is told -/
namespace Bk
open PySem PySem.Spec PyProof.Rows L2
end Bk
set_option Elab.async false
set_option linter.all false
set_option maxRecDepth 100000
set_option maxHeartbeats 4000000
/-! Bk85: trees of a size, chains -/
namespace Bk
open PySem PySem.Spec PyProof.Rows L2
/-! ### trees that grow by one row at the end -/
inductive OfS (a b c : Str) : Tr → Prop where
  | one : OfS a b c [(a, [])]
  | two {t : Tr} : OfS a b c t → OfS a b c (t ++ [(b, [((t.length - 1 : Nat) : Int)])])
  | three {t : Tr} : OfS a b c t → OfS a b c (t ++ [(c, [((t.length - 1 : Nat) : Int), ((t.length - 1 : Nat) : Int)])])
section
variable {a b c : Str} {t : Tr}
theorem OfS.pos (h : OfS a b c t) : 0 < t.length := by
  cases h with
  | one => exact Nat.succ_pos _
  | two _ => rw [List.length_append]; exact Nat.succ_pos _
  | three _ => rw [List.length_append]; exact Nat.succ_pos _
theorem OfS.idx (h : OfS a b c t) : TrIdx t := by
  induction h with
  | one =>
    intro i r hr
    cases i with
    | zero =>
      cases hr
      exact ⟨Nat.zero_le _, fun n hn => (nomatch hn)⟩
    | succ i => cases hr
  | @two t h ih =>
    have p := h.pos
    exact ih.snoc (by show 1 ≤ 2; decide) fun n hn => by rw [List.mem_singleton.1 hn]; omega
  | @three t h ih =>
    have p := h.pos
    refine ih.snoc (by show 2 ≤ 2; decide) fun n hn => ?_
    have e : n = ((t.length - 1 : Nat) : Int) := by
      rcases List.mem_cons.1 hn with e | hn
      · exact e
      · exact List.mem_singleton.1 hn
    rw [e]
    omega
theorem OfS.name (h : OfS a b c t) : ∀ r ∈ t, r.1 = a ∨ r.1 = b ∨ r.1 = c := by
  induction h with
  | one => exact fun r hr => .inl (by rw [List.mem_singleton.1 hr])
  | two _ ih =>
    intro r hr
    rcases List.mem_append.1 hr with hr | hr
    · exact ih r hr
    · exact .inr (.inl (by rw [List.mem_singleton.1 hr]))
  | three _ ih =>
    intro r hr
    rcases List.mem_append.1 hr with hr | hr
    · exact ih r hr
    · exact .inr (.inr (by rw [List.mem_singleton.1 hr]))
theorem top_new {t : Tr} {r : Str × List Int} (h : TrIdx (t ++ [r])) : trA (t ++ [r]) ((t ++ [r]).length - 1) = .node r.1 (r.2.map fun n => trA t n.toNat) := by
  have l : (t ++ [r]).length - 1 = t.length := by rw [List.length_append]; rfl
  have e : (t ++ [r])[t.length]? = some r := by rw [List.getElem?_append_right (Nat.le_refl _), Nat.sub_self]; rfl
  rw [l, trA_at h e]
  congr 1
  refine List.map_congr_left fun n hn => ?_
  have := (h _ _ e).2 n hn
  exact trA_pre (by omega)
theorem top_two {t : Tr} (h : 0 < t.length) (ix : TrIdx t) : trA (t ++ [(b, [((t.length - 1 : Nat) : Int)])]) ((t ++ [(b, [((t.length - 1 : Nat) : Int)])]).length - 1) = .node b [trA t (t.length - 1)] := by
  rw [top_new (ix.snoc (by show 1 ≤ 2; decide) fun n hn => by rw [List.mem_singleton.1 hn]; omega)]
  show PT.node b [trA t (((t.length - 1 : Nat) : Int).toNat)] = _
  rw [Int.toNat_natCast]
theorem OfS.top2 (h : OfS a b c t) : sizeP (trA (t ++ [(b, [((t.length - 1 : Nat) : Int)])]) ((t ++ [(b, [((t.length - 1 : Nat) : Int)])]).length - 1)) = 1 + sizeP (trA t (t.length - 1)) := by
  rw [top_two h.pos h.idx, sizeP_node]
  show 1 + (sizeP _ + 0) = _
  omega
theorem OfS.top3 (h : OfS a b c t) : sizeP (trA (t ++ [(c, [((t.length - 1 : Nat) : Int), ((t.length - 1 : Nat) : Int)])]) ((t ++ [(c, [((t.length - 1 : Nat) : Int), ((t.length - 1 : Nat) : Int)])]).length - 1)) = 1 + 2 * sizeP (trA t (t.length - 1)) := by
  rw [top_new (OfS.three h).idx, sizeP_node]
  show 1 + (sizeP (trA t (((t.length - 1 : Nat) : Int).toNat)) + (sizeP (trA t (((t.length - 1 : Nat) : Int).toNat)) + 0)) = _
  rw [Int.toNat_natCast]
  omega
end
/-! ### sizes on the way to 1 -/
def stepZ (n : Nat) : Nat := if n % 2 = 1 then n / 2 else n - 1
inductive SzL (many : Nat) : List Nat → Prop where
  | one : 1 ≤ many → SzL many [many]
  | step {l : List Nat} {x : Nat} : SzL many (l ++ [x]) → 1 < x → SzL many (l ++ [x] ++ [stepZ x])
theorem SzL.pos {many : Nat} {l : List Nat} (h : SzL many l) : ∀ x ∈ l, 1 ≤ x := by
  induction h with
  | one h => exact fun x hx => by rw [List.mem_singleton.1 hx]; exact h
  | @step l y _ h ih =>
    intro x hx
    rcases List.mem_append.1 hx with hx | hx
    · exact ih x hx
    · rw [List.mem_singleton.1 hx]
      unfold stepZ
      split <;> omega
theorem SzL.head {many : Nat} {l : List Nat} (h : SzL many l) : l.getD 0 0 = many := by
  induction h with
  | one _ => rfl
  | @step l y _ _ ih =>
    cases l with
    | nil => exact ih
    | cons z l => exact ih
def phiZ (n : Nat) : Nat := 2 * n.log2 + (if n % 2 = 0 then 1 else 0)
theorem phi_step {n : Nat} (h : 1 < n) : phiZ (stepZ n) < phiZ n := by
  unfold phiZ stepZ
  have n2 : n % 2 = 0 ∨ n % 2 = 1 := by omega
  have lg : n.log2 = (n / 2).log2 + 1 := by
    have h0 : n ≠ 0 := by omega
    have h1 : n / 2 ≠ 0 := by omega
    have a1 := Nat.log2_self_le h1
    have a2 : n / 2 < 2 ^ ((n / 2).log2 + 1) := (Nat.log2_lt h1).1 (Nat.lt_succ_self _)
    have b1 : (n / 2).log2 + 1 ≤ n.log2 := (Nat.le_log2 h0).2 (by rw [Nat.pow_succ]; omega)
    have b2 : n.log2 < (n / 2).log2 + 2 := (Nat.log2_lt h0).2 (by rw [Nat.pow_succ] at a2 ⊢; rw [Nat.pow_succ]; omega)
    omega
  rcases n2 with z | z
  · rw [if_neg (by omega), if_pos z, if_neg (by omega)]
    have : (n - 1).log2 ≤ n.log2 := by
      by_cases e : n - 1 = 0
      · rw [e]; exact Nat.zero_le _
      · have h1 := Nat.log2_self_le e
        exact (Nat.le_log2 (by omega)).2 (by omega)
    omega
  · have zz : ¬ n % 2 = 0 := by omega
    rw [if_pos z, if_neg zz]
    split <;> omega
theorem SzL.phi {many : Nat} {l : List Nat} (h : SzL many l) : ∀ m x, l = m ++ [x] → l.length + phiZ x ≤ 1 + phiZ many := by
  induction h with
  | one _ =>
    intro m x e
    have : m = [] ∧ x = many := by
      cases m with
      | nil => cases e; exact ⟨rfl, rfl⟩
      | cons z m =>
        have := congrArg List.length e
        rw [List.length_append, List.length_singleton, List.length_cons, List.length_singleton] at this
        omega
    rw [this.2]
    exact Nat.le_refl _
  | @step l y h hy ih =>
    intro m x e
    obtain ⟨e1, e2⟩ := List.append_inj' e rfl
    cases e2
    have := ih l y rfl
    have := phi_step hy
    rw [List.length_append, List.length_singleton]
    omega
theorem SzL.len {many : Nat} {l : List Nat} (h : SzL many l) (hm : many < 2 ^ 32) : l.length ≤ 64 := by
  have hp : phiZ many ≤ 63 := by
    unfold phiZ
    have : many.log2 ≤ 31 := by
      by_cases e : many = 0
      · rw [e]; decide
      · exact Nat.le_of_lt_succ ((Nat.log2_lt e).2 hm)
    split <;> omega
  obtain ⟨m, x, e⟩ : ∃ m x, l = m ++ [x] := by
    cases h with
    | one _ => exact ⟨[], _, rfl⟩
    | step _ _ => exact ⟨_, _, rfl⟩
  have := h.phi m x e
  by_cases z : phiZ x = 0
  · omega
  · omega
/-! ### the wood of these trees -/
def woodS (a b c k : Str) : Wd := [(k, [(a, []), (b, [k]), (c, [k, k])])]
section
variable {a b c k : Str}
structure WsOk (a b c k : Str) : Prop where
  names : isName a = true ∧ isName b = true ∧ isName c = true ∧ isName k = true
  nd : a ≠ b ∧ a ≠ c ∧ b ≠ c
theorem WsOk.wood (h : WsOk a b c k) : WoodOk (woodS a b c k) := by
  obtain ⟨⟨ha, hb, hc, hk⟩, n1, n2, n3⟩ := h
  refine ⟨⟨Nat.le_refl 1, (show 1 ≤ 4 by decide)⟩, fun q hq => ?_, List.nodup_cons.2 ⟨fun z => (nomatch z), List.nodup_nil⟩, fun q hq m hm => ?_, ?_, (show 3 ≤ 12 by decide)⟩
  · rw [List.mem_singleton.1 hq]
    exact hk
  · rw [List.mem_singleton.1 hq] at hm
    replace hm : m ∈ [(a, []), (b, [k]), (c, [k, k])] := hm
    simp only [List.mem_cons, List.not_mem_nil, or_false] at hm
    rcases hm with rfl | rfl | rfl
    · exact ⟨ha, Nat.zero_le _, fun s hs => (nomatch hs)⟩
    · exact ⟨hb, (show 1 ≤ 2 by decide), fun s hs => hs⟩
    · refine ⟨hc, Nat.le_refl 2, fun s hs => ?_⟩
      simp only [List.mem_cons, List.not_mem_nil, or_false, or_self] at hs
      rw [hs]
      exact List.mem_cons_self
  · show [a, b, c].Nodup
    simp [n1, n2, n3]
theorem kind_zero {w : Wd} {s : Str} {m : Mk} (h : mkOf w s = some (0, m)) : kindAt w s = 0 := by
  unfold kindAt
  rw [h]
  rfl
theorem WsOk.mks (h : WsOk a b c k) : mkOf (woodS a b c k) a = some (0, (a, [])) ∧ mkOf (woodS a b c k) b = some (0, (b, [k])) ∧ mkOf (woodS a b c k) c = some (0, (c, [k, k])) := by
  have nd := h.wood.nd
  exact ⟨mkOf_mem nd (e := (0, (a, []))) (List.mem_cons_self ..), mkOf_mem nd (e := (0, (b, [k]))) (List.mem_cons_of_mem _ List.mem_cons_self), mkOf_mem nd (e := (0, (c, [k, k]))) (List.mem_cons_of_mem _ (List.mem_cons_of_mem _ List.mem_cons_self))⟩
theorem OfS.kind (h : WsOk a b c k) {t : Tr} (o : OfS a b c t) {n : Nat} {q : Str × List Int} (e : t[n]? = some q) : kindAt (woodS a b c k) q.1 = 0 := by
  obtain ⟨m1, m2, m3⟩ := h.mks
  rcases o.name q (List.mem_of_getElem? e) with z | z | z <;> rw [z]
  · exact kind_zero m1
  · exact kind_zero m2
  · exact kind_zero m3
end
/-! ### chains -/
end Bk
set_option Elab.async false
set_option linter.all false
set_option maxRecDepth 100000
set_option maxHeartbeats 4000000
/-! Bk86: shifts, words spoilt: contracts -/
namespace Bk
open PySem PySem.Spec PyProof.Rows L2
end Bk
set_option Elab.async false
set_option linter.all false
set_option maxRecDepth 100000
set_option maxHeartbeats 4000000
/-! Bk87: words of chains, sizes -/
namespace Bk
open PySem PySem.Spec PyProof.Rows L2
theorem OfS.small {a b c : Str} {t : Tr} (o : OfS a b c t) : ∀ i, i < t.length → sizeP (trA t i) ≤ sizeP (trA t (t.length - 1)) := by
  induction o with
  | one =>
    intro i hi
    have : i = 0 := Nat.lt_one_iff.1 hi
    rw [this]
    exact Int.le_refl _
  | @two t o ih =>
    intro i hi
    have l : (t ++ [(b, [((t.length - 1 : Nat) : Int)])]).length = t.length + 1 := by rw [List.length_append]; rfl
    by_cases c : i < t.length
    · rw [trA_pre c, o.top2]
      have := ih i c
      omega
    · have : i = (t ++ [(b, [((t.length - 1 : Nat) : Int)])]).length - 1 := by omega
      rw [this]
      exact Int.le_refl _
  | @three t o ih =>
    intro i hi
    have l : (t ++ [(c, [((t.length - 1 : Nat) : Int), ((t.length - 1 : Nat) : Int)])]).length = t.length + 1 := by rw [List.length_append]; rfl
    by_cases cc : i < t.length
    · rw [trA_pre cc, o.top3]
      have := ih i cc
      have := size_pos (trA t i)
      omega
    · have : i = (t ++ [(c, [((t.length - 1 : Nat) : Int), ((t.length - 1 : Nat) : Int)])]).length - 1 := by rw [l]; omega
      rw [this]
      exact Int.le_refl _
/-! ### words of chains -/
end Bk
set_option Elab.async false
set_option linter.all false
set_option maxRecDepth 100000
set_option maxHeartbeats 4000000
/-! Bk88: texts of trees: how they are spelled -/
namespace Bk
open PySem PySem.Spec PyProof.Rows L2
/-! ### one sign at a place -/
/-! ### the parser -/
def isLet (c : Nat) : Bool := decide (c ∈ lettersS.cps.toList)
abbrev Ops := List (Str × Nat)
/-! ### contracts -/
abbrev flTT (t b : V) : List (Str × V) := [("text", t), ("begin", b)]
def TxAt (C : Addr) (H : Hp) (p : Addr) (z : Str) (b : Nat) : Prop := ∃ dx, H p = some (.ins C dx (flTT (.str z) (.int (b : Nat))))
theorem TxAt.ex {C : Addr} {H H' : Hp} {p : Addr} {z : Str} {b : Nat} (h : TxAt C H p z b) (e : Ex H H') : TxAt C H' p z b := h.elim fun dx h => ⟨dx, e _ _ h⟩
theorem TxAt.at_upd {C : Addr} {H : Hp} {p q : Addr} {z : Str} {b : Nat} {o : HO} (h : TxAt C H p z b) (n : q ≠ p) : TxAt C (upd H q o) p z b := h.elim fun dx h => ⟨dx, by rw [upd_ne (Ne.symm n)]; exact h⟩
end Bk
set_option Elab.async false
set_option linter.all false
set_option maxRecDepth 100000
set_option maxHeartbeats 4000000
/-! Bk89: texts of trees, how they are read; wider contracts -/
namespace Bk
open PySem PySem.Spec PyProof.Rows L2
/-! ### a tree's text -/
inductive OkP : PT → Prop where
  | node {s : Str} {ps : List PT} : isName s = true → (∀ p ∈ ps, OkP p) → OkP (.node s ps)
theorem OkP.name {s : Str} {ps : List PT} (h : OkP (.node s ps)) : isName s = true := by cases h; assumption
theorem OkP.part {s : Str} {ps : List PT} (h : OkP (.node s ps)) : ∀ p ∈ ps, OkP p := by cases h; assumption
/-! ### a tree's text, gone through -/
def Stop (l : List Nat) : Prop := l = [] ∨ (∃ r, l = 44 :: r) ∨ ∃ r, l = 41 :: r
theorem Stop.head {l : List Nat} (h : Stop l) : ∀ c, l.head? = some c → isLet c = false ∧ c ≠ 40 := by
  rcases h with rfl | ⟨r, rfl⟩ | ⟨r, rfl⟩
  · intro c h; cases h
  · intro c h; cases h; exact ⟨by decide +kernel, by decide⟩
  · intro c h; cases h; exact ⟨by decide +kernel, by decide⟩
/-! ### what the names and counts tell -/
/-! ### alike just where the same -/
end Bk
set_option Elab.async false
set_option linter.all false
set_option maxRecDepth 100000
set_option maxHeartbeats 4000000
/-! Bk90: wider contracts: trees to 3000 rows -/
namespace Bk
open PySem PySem.Spec PyProof.Rows L2
/-- what a tree's rows tell, whatever their names -/
structure TrU (T : PT) (c : Tr) : Prop where
  pos : 0 < c.length
  few : c.length ≤ 3000
  idx : TrIdx c
  top : trA c (c.length - 1) = T
  name : ∀ r ∈ c, TextOk r.1
theorem TrU.plain {T : PT} {c : Tr} (h : TrU T c) : TrU T (plainF c) ∧ plainF c = plT T := by
  have pe := plain_end h.idx h.pos
  have l := pe.le
  have f := h.few
  refine ⟨⟨pe.pos, by omega, pe.idx, (plain_top h.idx h.pos).trans h.top, plain_names h.idx h.pos h.name⟩, ?_⟩
  rw [plainF_eq, h.top]
theorem TrU.row {nm : Str} {ps : List PT} {c : Tr} (h : TrU (.node nm ps) c) : (rowAt c (c.length - 1)).1 = nm ∧ (rowAt c (c.length - 1)).2.map (fun n => trA c n.toNat) = ps ∧ ps.length ≤ 2 := by
  have p := h.pos
  have er := List.getElem?_eq_getElem (l := c) (i := c.length - 1) (by omega)
  have e := h.top
  rw [trA_at h.idx er] at e
  injection e with e1 e2
  have r := rowAt_eq er
  rw [r]
  exact ⟨e1, e2, by rw [← e2, List.length_map]; exact (h.idx _ _ er).1⟩
theorem TrU.part {nm : Str} {ps : List PT} {c : Tr} (h : TrU (.node nm ps) c) : ∀ p ∈ ps, TrU p (plT p) ∧ (plT p).length ≤ c.length := fun p hp => by
  obtain ⟨_, e2, _⟩ := h.row
  rw [← e2] at hp
  obtain ⟨n, hn, rfl⟩ := List.mem_map.1 hp
  have q := h.pos
  have er := List.getElem?_eq_getElem (l := c) (i := c.length - 1) (by omega)
  rw [rowAt_eq er] at hn
  have ix := (h.idx _ _ er).2 n hn
  have l : (c.take (n.toNat + 1)).length = n.toNat + 1 := by rw [List.length_take]; omega
  have f := h.few
  have t : TrU (trA c n.toNat) (c.take (n.toNat + 1)) := ⟨by omega, by omega, h.idx.take _, by rw [l, Nat.add_sub_cancel]; exact trA_take (by omega) (Nat.lt_succ_self _), fun r hr => h.name r (List.mem_of_mem_take hr)⟩
  have z := t.plain
  have pl := (plain_end t.idx t.pos).le
  rw [z.2] at pl
  rw [z.2] at z
  exact ⟨z.1, by omega⟩
theorem TrU.size {T : PT} {c : Tr} (h : TrU T c) : (treeD c).size ≤ 15001 := by
  have := tree_size h.idx
  have := h.few
  omega
/-! ### contracts -/
end Bk
set_option Elab.async false
set_option linter.all false
set_option maxRecDepth 100000
set_option maxHeartbeats 4000000
/-! Bk91: runs of letters -/
namespace Bk
open PySem PySem.Spec PyProof.Rows L2
/-! ### what stands open -/
def OpsAt (p F O : Addr) (H0 H : Hp) : Ops → List Addr → Prop
  | [], [] => True
  | (n, k) :: ops, a :: as => (H a = some (.lst [.str n, .int (k : Nat)]) ∧ a ≠ p ∧ a ≠ F ∧ a ≠ O ∧ H0 a = none ∧ a ∉ as) ∧ OpsAt p F O H0 H ops as
  | _, _ => False
section
variable {p F O : Addr} {H0 H H' : Hp}
theorem OpsAt.keep : ∀ {ops : Ops} {as : List Addr}, OpsAt p F O H0 H ops as → (∀ a, a ∈ as → a ≠ p → a ≠ F → a ≠ O → ∀ l, H a = some (.lst l) → H' a = some (.lst l)) → OpsAt p F O H0 H' ops as
  | [], [], h, _ => h
  | (n, k) :: ops, a :: as, h, q => ⟨⟨q a List.mem_cons_self h.1.2.1 h.1.2.2.1 h.1.2.2.2.1 _ h.1.1, h.1.2⟩, OpsAt.keep h.2 fun b hb => q b (List.mem_cons_of_mem _ hb)⟩
  | [], _ :: _, h, _ => h.elim
  | _ :: _, [], h, _ => h.elim
theorem OpsAt.len : ∀ {ops : Ops} {as : List Addr}, OpsAt p F O H0 H ops as → as.length = ops.length
  | [], [], h => rfl
  | (n, k) :: ops, a :: as, h => congrArg Nat.succ (OpsAt.len h.2)
  | [], _ :: _, h => h.elim
  | _ :: _, [], h => h.elim
theorem OpsAt.but {ops : Ops} {as : List Addr} (h : OpsAt p F O H0 H ops as) (b : But p H H') : OpsAt p F O H0 H' ops as := h.keep fun a _ n _ _ l e => b a _ n e
theorem OpsAt.ex {ops : Ops} {as : List Addr} (h : OpsAt p F O H0 H ops as) (b : Ex H H') : OpsAt p F O H0 H' ops as := h.keep fun a _ _ _ _ l e => b a _ e
theorem OpsAt.mem : ∀ {ops : Ops} {as : List Addr}, OpsAt p F O H0 H ops as → ∀ a ∈ as, ∃ l, H a = some (.lst l)
  | [], [], h, a, ha => nomatch ha
  | (n, k) :: ops, b :: as, h, a, ha => by
    rcases List.mem_cons.1 ha with rfl | ha
    · exact ⟨_, h.1.1⟩
    · exact OpsAt.mem h.2 a ha
  | [], _ :: _, h, _, _ => h.elim
  | _ :: _, [], h, _, _ => h.elim
theorem OpsAt.push {ops : Ops} {as : List Addr} {a : Addr} {n : Str} {k : Nat} (h : OpsAt p F O H0 H ops as) (ha : H a = none) (h1 : a ≠ p) (h2 : a ≠ F) (h3 : a ≠ O) (h4 : H0 a = none) : OpsAt p F O H0 (upd H a (.lst [.str n, .int (k : Nat)])) ((n, k) :: ops) (a :: as) :=
  ⟨⟨upd_same, h1, h2, h3, h4, fun z => by obtain ⟨l, e⟩ := h.mem a z; rw [ha] at e; cases e⟩, h.ex (Ex.new ha)⟩
end
theorem TxAt.tk {C : Addr} {H H' : Hp} {p : Addr} {z : Str} {b : Nat} (h : TxAt C H p z b) (e : But p H H') : Tk H H' := fun a xs ha => e a _ (fun y => by obtain ⟨dx, hh⟩ := h; rw [y, hh] at ha; cases ha) ha
theorem TxAt.ne {C : Addr} {H : Hp} {p q : Addr} {z : Str} {b : Nat} (h : TxAt C H p z b) (e : H q = none) : q ≠ p := fun y => by obtain ⟨dx, hh⟩ := h; rw [y, hh] at e; cases e
end Bk
set_option Elab.async false
set_option linter.all false
set_option maxRecDepth 100000
set_option maxHeartbeats 4000000
/-! Bk92: k13: letters, trees that are told in all forms -/
namespace Bk
open PySem PySem.Spec PyProof.Rows L2
/-! ### trees of a wood stand -/
end Bk
set_option Elab.async false
set_option linter.all false
set_option maxRecDepth 100000
set_option maxHeartbeats 4000000
/-! Bk93: k13: chains in a wood of two makers -/
namespace Bk
open PySem PySem.Spec PyProof.Rows L2
end Bk
set_option Elab.async false
set_option linter.all false
set_option maxRecDepth 100000
set_option maxHeartbeats 4000000
/-! Bk94: k11: the law's own parser; texts that do not close -/
namespace Bk
open PySem PySem.Spec PyProof.Rows L2
/-! ### runs -/
/-! ### what a turn's state tells -/
/-! ### one sign cut out -/
theorem cut_one {z : Str} {b : Nat} : cutS z (some (b : Int)) (some ((b + 1 : Nat) : Int)) = match z.cps.toList[b]? with | some c => (⟨#[c]⟩ : Str) | none => "" := by
  refine str_ext ?_
  rw [cut_list, HT.sIx_nat, HT.sIx_nat]
  cases e : z.cps.toList[b]? with
  | none =>
    have l : z.length ≤ b := by rw [str_len]; exact List.getElem?_eq_none_iff.1 e
    rw [Nat.min_eq_right l, Nat.min_eq_right (by omega), Nat.sub_self]
    rfl
  | some c =>
    have l := (List.getElem?_eq_some_iff.1 e).1
    rw [← str_len] at l
    rw [Nat.min_eq_left (by omega), Nat.min_eq_left (by omega), Nat.add_sub_cancel_left, List.drop_eq_getElem_cons (by rw [← str_len]; exact l)]
    show [z.cps.toList[b]'_] = [c]
    rw [List.getElem?_eq_getElem (by rw [← str_len]; exact l)] at e
    rw [Option.some.inj e]
/-! ### what is spelled closes, and a name stands behind each opening -/
/-! ### the text of a chain -/
end Bk
set_option Elab.async false
set_option linter.all false
set_option maxRecDepth 100000
set_option maxHeartbeats 4000000
/-! Bk95: contracts of k11 -/
namespace Bk
open PySem PySem.Spec PyProof.Rows L2
theorem new_at {H : Hp} {a : Addr} {o : HO} (_ : H a = none) : upd H a o a = some o := upd_same
/-! ### texts put together -/
theorem cut_head (z : Str) (a : Nat) : (cutS z none (some (a : Int))).length ≤ a := by
  rw [str_len, cut_list, List.length_take, HT.sIx_nat]
  omega
theorem cut_tail (z : Str) (a : Nat) : (cutS z (some (a : Int)) none).length ≤ z.length - a := by
  rw [str_len, cut_list, List.length_take, List.length_drop, HT.sIx_nat, ← str_len]
  omega
/-! ### contracts -/
end Bk
set_option Elab.async false
set_option linter.all false
set_option maxRecDepth 100000
set_option maxHeartbeats 4000000
/-! Bk96: great ints: str, f-strings, int(text) up to 4,300 figures -/
namespace Bk
open PySem PySem.Spec PyProof.Rows L2
section
open PySem.NumText PySem.Calls PySem.Builtin
structure HidN (p : Prop) : Prop where
  out : p
theorem wp_imsd {M : Model} {A : Around} {E : Value → Shared → Prop} {s : Shared} {Q : Nat → Shared → Prop} (hn : s.heap.NoDigits) (h : Q 4300 s) : wpAny M A Builtin.intMaxStrDigits Q E s := by
  obtain ⟨mc, hns, hnone⟩ := hn
  unfold Builtin.intMaxStrDigits
  refine wpAny_bind (wpAny_nsGet hns ?_)
  rw [hnone]
  exact wpAny_pure h
theorem wp_textN {M : Model} {A : Around} {E : Value → Shared → Prop} {s : Shared} {Q : Value → Shared → Prop} {v : Value} {text : List Nat} {n : Int} (hn : s.heap.NoDigits)
    (hs : ¬ (text.takeWhile (· != 0)).length ≤ 640) (hr : (int_private% "readNumeral") 4300 10 (text.takeWhile (· != 0)) = (int_private% "Numeral.value") n)
    (ha : ((text.takeWhile (· != 0)).length == text.length) = true) (h : Q (.int n s.toks) { s with toks := s.toks + 1 }) :
    wpAny M A ((int_private% "intFromText") v text 10) Q E s := by
  obtain ⟨hp, g, d, tk, os⟩ := s
  have hk := HidN.mk hn
  clear hn
  repeat (any_goals (first
    | assumption
    | (with_reducible refine wpAny_ite_false (decide_eq_false hs) ?_)
    | (with_reducible refine wpAny_ite_true (decide_eq_true ha) ?_)
    | (with_reducible refine wp_imsd hk.out ?_)
    | wp_step))
  all_goals (try rw [hr])
  all_goals (try dsimp only)
  repeat (any_goals (first
    | assumption
    | (with_reducible refine wpAny_ite_false (decide_eq_false hs) ?_)
    | (with_reducible refine wpAny_ite_true (decide_eq_true ha) ?_)
    | wp_step))
set_option maxHeartbeats 8000000 in
theorem meets_textN {x : PySem.Str} {u : Tok} {n : Int} (hl : x.length ≤ sizeLine) (hn : PySem.intText? x = some n) :
    Meets (Builtin.«int.__new__» ⟨[.type "int", .str x u], []⟩) (fun _ R s => s.heap.NoDigits ∧ R (.ok (.ret (.int n s.toks))) { s with toks := s.toks + 1 }) :=
  .of_wp fun prog w A R s h => by
    obtain ⟨hd, h⟩ := h
    obtain ⟨hp, g, d, tk, os⟩ := s
    have f1 := F.conv_sub_int
    have f2 := F.madeHere_int
    have f3 := PySem.W.KIN.str_int
    have f4 := PySem.W.KIN.str_idx
    have f5 := PySem.W.KIN.str_trunc
    have f6 : typeOf (.str x u) = pure (.type "str") := rfl
    by_cases hs : (numSeenOf x).length ≤ 640
    · have hr : (int_private% "readNumeral") 0 10 (numSeenOf x) = (int_private% "Numeral.value") n ∧ ((numSeenOf x).length == (numTextOf x).length) = true := by
        rcases read0 x hs with ⟨m, h1, h2, h3⟩ | ⟨h1, _⟩
        · rw [hn] at h1
          injection h1 with h1
          subst h1
          exact ⟨h3, h2⟩
        · rw [hn] at h1
          cases h1
      have hk := HidN.mk (And.intro hs hr)
      clear hs hr hl hn hd
      repeat (any_goals (first
        | assumption
        | ((with_reducible show wpAny _ _ ((int_private% "intFromText") _ _ _) _ _ _); refine PySem.W.KIN.wp_text hk.out.1 hk.out.2.1 hk.out.2.2 ?_)
        | wp_step))
      all_goals first | exact ⟨_, rfl, h⟩ | skip
    · have hr : (int_private% "readNumeral") 4300 10 (numSeenOf x) = (int_private% "Numeral.value") n ∧ ((numSeenOf x).length == (numTextOf x).length) = true := by
        rcases read4300 x hl with ⟨m, h1, h2, h3⟩ | ⟨h1, _⟩
        · rw [hn] at h1
          injection h1 with h1
          subst h1
          exact ⟨h3, h2⟩
        · rw [hn] at h1
          cases h1
      have hk := HidN.mk (And.intro hs (And.intro hr hd))
      clear hs hr hl hn hd
      repeat (any_goals (first
        | assumption
        | ((with_reducible show wpAny _ _ ((int_private% "intFromText") _ _ _) _ _ _); refine wp_textN hk.out.2.2 hk.out.1 hk.out.2.1.1 hk.out.2.1.2 ?_)
        | wp_step))
      all_goals first | exact ⟨_, rfl, h⟩ | skip
theorem call_textN {prog : Program} {w : World} {A : Around} {E : Value → Shared → Prop} {s : Shared} {Q : Value → Shared → Prop} {x : PySem.Str} {t : Tok} {n : Int} (hd : s.heap.NoDigits) (hn : PySem.intText? x = some n) (hl : x.length ≤ sizeLine)
    (h : Q (.int n s.toks) { s with toks := s.toks + 1 }) : wpAny (model prog w) A (call (.type "int") [.str x t]) Q E s :=
  call_int_1 (meets_textN hl hn) ⟨hd, typeIs_int _ _ _, h⟩
end
/-! ### rules -/
/-- what the written part says: the limit on figures is the usual one -/
structure Lim (K : PySem.W.Frag) : Prop where
  ok : PySem.W.nsOkIn K cStatics = true
  no : PySem.W.nsIn K cStatics "sys.int_max_str_digits" = some none
def keysOk (es : Array PySem.DictEntry) : Bool := es.all fun e => match e.key with
  | .str _ _ => true
  | _ => false
theorem Lim.of {K : PySem.W.Frag} {oc : Value} {od : Option Addr} {es : Array PySem.DictEntry} {ep : Nat} {sl : Array (Option Value)} (lk : K.lookup cStatics = some ⟨oc, od, .dict es ep, sl⟩) (ok : keysOk es = true) (no : PySem.W.nsIn K cStatics "sys.int_max_str_digits" = some none) : Lim K := by
  refine ⟨?_, no⟩
  unfold PySem.W.nsOkIn
  rw [lk]
  exact ok
theorem Lim.none {K : PySem.W.Frag} {h : Heap} (L : Lim K) (X : K.In h) : h.NoDigits :=
  ⟨_, .of_isNs (PySem.W.isNs_of_in X L.ok), PySem.W.nsMap_none_of_in X L.ok L.no⟩
def uStrW : List V → Hp → VK → Prop := fun xs H Q => match xs with
  | [.int i] => i.natAbs < 10 ^ 4300 ∧ Q (.str (numT i)) H
  | _ => False
theorem uk_strW {X : Cx} (L : Lim X.K) (hc : X.calm = true) : CallR X (.type "str") uStrW := by
  intro pins s σ H xs us Q I r h
  unfold uStrW at h
  split at h
  · obtain ⟨hl, q⟩ := h
    obtain ⟨u, rfl, t, rfl⟩ := vals1 r
    exact str_of_int_or (I.ok.hd hc) (L.none I.kIn) (fun _ => ⟨.str _, H, I.tok _, ⟨_, rfl⟩, q⟩) (fun y => absurd hl (Nat.not_lt.2 y))
  · exact h.elim
def uIntW : List V → Hp → VK → Prop := fun xs H Q => match xs with
  | [.str a] => intText? a = some (intT a) ∧ a.length ≤ 1000000 ∧ Q (.int (intT a)) H
  | _ => False
theorem uk_intW {X : Cx} (L : Lim X.K) : CallR X (.type "int") uIntW := by
  intro pins s σ H xs us Q I r h
  unfold uIntW at h
  split at h
  · obtain ⟨hn, hl, q⟩ := h
    obtain ⟨u, rfl, t, rfl⟩ := vals1 r
    exact call_textN (L.none I.kIn) hn (Nat.le_trans hl (by decide)) ⟨.int _, H, I.tok _, ⟨_, rfl⟩, q⟩
  · exact h.elim
def uFmtW (te : TE) : TE := fun σ H Q => te σ H fun x H1 => match x with
  | .str y => y.length ≤ 1000000 ∧ Q (.str y) H1
  | .int i => i.natAbs < 10 ^ 4300 ∧ Q (.str (numT i)) H1
  | _ => False
theorem pe_fmtW {X : Cx} {e : Expr} {te : TE} {pos : Pos} (L : Lim X.K) (hc : X.calm = true) (he : PE X e te) : PE X (.FormattedValue e (-1) none pos) (uFmtW te) := by
  refine ⟨fun pp s0 σ0 H0 Q0 J hh => wpAny_FormattedValue_plain (thn (he.run pp s0 σ0 H0 _ J hh) fun v0 s2 z => ?_)⟩
  obtain ⟨x0, H2, J2, rr, qq⟩ := z
  split at qq
  · obtain ⟨tk, e⟩ := rr
    subst e
    exact wpAny_formatField_str ⟨.str _, H2, J2, ⟨tk, rfl⟩, qq.2⟩ ⟨.str _, H2, J2.tok _, ⟨_, rfl⟩, qq.2⟩ (Nat.le_trans qq.1 (by decide))
  · obtain ⟨tk, e⟩ := rr
    subst e
    exact PyProof.Rows.formatField_int (J2.ok.hd hc) (L.none J2.kIn) (fun _ => ⟨.str (numT _), H2, J2.tok _, ⟨_, rfl⟩, qq.2⟩) (fun y => absurd qq.1 (Nat.not_lt.2 y))
  · exact qq.elim
end Bk
set_option Elab.async false
set_option linter.all false
set_option maxRecDepth 100000
set_option maxHeartbeats 4000000
/-! Bk97: k02: fractions' texts by own reading -/
namespace Bk
open PySem PySem.Spec PyProof.Rows L2
/-! ### figures written back -/
theorem char_back {c : Nat} (h : 48 ≤ c ∧ c ≤ 57) : (Char.ofNat c).toNat = c := by
  have key : ∀ d, d < 10 → (Char.ofNat (48 + d)).toNat = 48 + d := by decide
  have := key (c - 48) (by omega)
  rw [show 48 + (c - 48) = c by omega] at this
  exact this
theorem num_digits {cs : List Nat} (h : NumText.AllDigits cs) (h1 : cs ≠ []) (h2 : cs.length = 1 ∨ cs.headD 0 ≠ 48) : numTL ((NumText.digitsVal cs : Nat) : Int) = cs := by
  have e := NumText.toDigits_digitsVal (cs.length - 1) cs (by have := List.length_pos_iff.2 h1; omega) h (by
    cases cs with
    | nil => exact absurd rfl h1
    | cons c r =>
      rcases h2 with h2 | h2
      · left; rw [h2]
      · right
        refine ⟨c, r, rfl, ?_⟩
        have := h c List.mem_cons_self
        have : c ≠ 48 := h2
        omega)
  rw [← numT_tl]
  have k := PySem.W.KIN.signs_num (NumText.digitsVal cs)
  refine (show (numT ((NumText.digitsVal cs : Nat) : Int)).cps.toList = _ from k).trans ?_
  rw [e, List.map_map]
  refine (List.map_congr_left (g := id) fun c hc => char_back (h c hc)).trans (List.map_id _)
theorem canon {s : Str} (h : isFigs s = true) : s = numT (intT s) ∧ 0 ≤ intT s ∧ (intT s).natAbs < 10 ^ 30 ∧ intText? s = some (intT s) := by
  obtain ⟨⟨l0, l1⟩, ad, hd⟩ := isFigs_iff.1 h
  have ne : s.cps.toList ≠ [] := fun e => by rw [str_len, e] at l0; exact absurd l0 (by decide)
  obtain ⟨i1, i2⟩ := int_digits ad ne (by omega)
  have h2 : s.cps.toList.length = 1 ∨ s.cps.toList.headD 0 ≠ 48 := by
    rcases hd with rfl | hd
    · left; decide +kernel
    · exact .inr hd
  refine ⟨str_ext ?_, ?_, ?_, i1⟩
  · rw [numT_tl, i2, num_digits ad ne h2]
  · rw [i2]; exact Int.natCast_nonneg _
  · rw [i2, Int.natAbs_natCast]
    refine Nat.lt_of_lt_of_le (digits_lt ad) (Nat.pow_le_pow_right (by decide) ?_)
    rw [← str_len]
    exact l1
theorem num_neg {a : Int} (h : 0 < a) : numT (0 - a) = "-" ++ numT a := by
  refine str_ext ?_
  have e : ("-" : Str).cps.toList = [45] := by decide +kernel
  rw [app_list, numT_tl, numT_tl, e]
  unfold numTL
  rw [if_pos (by omega), if_neg (by omega), show (0 - a).natAbs = a.natAbs by omega]
  rfl
/-! ### parted again -/
theorem mem_first {x : Nat} : ∀ {l : List Nat}, x ∈ l → ∃ a b, l = a ++ x :: b ∧ x ∉ a
  | [], h => nomatch h
  | y :: l, h => by
    by_cases e : x = y
    · exact ⟨[], l, by rw [e]; rfl, fun z => nomatch z⟩
    · obtain ⟨a, b, e1, e2⟩ := mem_first ((List.mem_cons.1 h).resolve_left e)
      exact ⟨y :: a, b, by rw [e1]; rfl, fun z => (List.mem_cons.1 z).elim e e2⟩
theorem part_whole {z : Str} : (Txt.partition z "/" = (z, Str.empty, Str.empty) ∧ 47 ∉ z.cps.toList) ∨ (∃ a b : Str, Txt.partition z "/" = (a, ("/" : Str), b) ∧ z = a ++ "/" ++ b ∧ 47 ∉ a.cps.toList) := by
  by_cases h : 47 ∈ z.cps.toList
  · right
    obtain ⟨a, b, hs, hn⟩ := mem_first h
    have e : z = (⟨a.toArray⟩ : Str) ++ "/" ++ ⟨b.toArray⟩ := str_ext (by
      rw [app_list, app_list, slash_list, hs]
      show _ = a ++ [47] ++ b
      rw [List.append_assoc]
      rfl)
    refine ⟨⟨a.toArray⟩, ⟨b.toArray⟩, ?_, e, hn⟩
    have := TL.partition_app (y := "/") slash_list (a := ⟨a.toArray⟩) (b := ⟨b.toArray⟩) hn
    rw [← e] at this
    exact this
  · exact .inl ⟨TL.partition_none slash_list h, h⟩
theorem empty_ne : ¬ (Str.empty = ("/" : Str)) := by decide +kernel
theorem sign_bare {z : Str} (h : hasSign z = true) : z = "-" ++ bareS z := by
  have e : ("-" : Str).cps.toList = [45] := by decide +kernel
  refine str_ext ?_
  cases c : z.cps.toList with
  | nil => rw [hasSign_nil c] at h; cases h
  | cons d r =>
    rw [hasSign_cons c] at h
    have hd := of_decide_eq_true h
    subst hd
    rw [app_list, e, bareS_list, c]
    rfl
theorem nosign_bare {z : Str} (h : hasSign z = false) : z = bareS z := by
  refine str_ext ?_
  rw [bareS_list]
  cases c : z.cps.toList with
  | nil => rfl
  | cons d r =>
    rw [hasSign_cons c] at h
    have hd := of_decide_eq_false h
    rw [if_neg (show ¬ (d :: r).headD 0 = 45 from hd)]
theorem sign_num (i : Int) : hasSign (numT i) = decide (i < 0) := by
  have e := numT_tl i
  unfold numTL at e
  by_cases h : i < 0
  · rw [if_pos h] at e
    rw [hasSign_cons e, decide_eq_true h]
    rfl
  · rw [if_neg h] at e
    rw [decide_eq_false h]
    cases c : TL.numL i.natAbs with
    | nil => exact absurd c (TL.numL_ne _)
    | cons d r =>
      rw [c] at e
      rw [hasSign_cons e]
      have := TL.numL_digits i.natAbs d (by rw [c]; exact List.mem_cons_self)
      exact decide_eq_false (by omega)
theorem sign_app {a b : Str} (h : a.cps.toList ≠ []) : hasSign (a ++ b) = hasSign a := by
  cases c : a.cps.toList with
  | nil => exact absurd c h
  | cons d r =>
    rw [hasSign_cons c, hasSign_cons (s := a ++ b) (c := d) (r := r ++ b.cps.toList) (by rw [app_list, c]; rfl)]
theorem bare_app {a b : Str} (h : a.cps.toList ≠ []) : bareS (a ++ b) = bareS a ++ b := by
  refine str_ext ?_
  rw [bareS_list, app_list, app_list, bareS_list]
  cases c : a.cps.toList with
  | nil => exact absurd c h
  | cons d r =>
    show (if d = 45 then _ else _) = (if d = 45 then _ else _) ++ _
    split <;> rfl
theorem num_ne (i : Int) : (numT i).cps.toList ≠ [] := by
  rw [numT_tl]
  unfold numTL
  split
  · exact List.cons_ne_nil _ _
  · exact TL.numL_ne _
theorem num_free (i : Int) : 47 ∉ (numT i).cps.toList := by
  rw [numT_tl]
  exact numTL_free (by decide) (.inl (by decide))
/-- what a fraction's text is made of -/
theorem shown_parts {z : Str} {f : Fx} (h : readFx z = some f) : hasSign z = decide (f.1 < 0) ∧ LowF f ∧ f.1.natAbs < 10 ^ 30 ∧ f.2.natAbs < 10 ^ 30 ∧ showFx f = z ∧
    ((f.2 = 1 ∧ Txt.partition (bareS z) "/" = (numT (f.1.natAbs : Nat), Str.empty, Str.empty)) ∨ (f.2 ≠ 1 ∧ Txt.partition (bareS z) "/" = (numT (f.1.natAbs : Nat), ("/" : Str), numT f.2))) := by
  obtain ⟨lw, b1, b2, e⟩ := readFx_some h
  subst e
  unfold showFx
  by_cases c : f.2 = 1
  · rw [if_pos c]
    exact ⟨sign_num _, lw, b1, b2, rfl, .inl ⟨c, by rw [bare_num]; exact TL.partition_none slash_list (num_free _)⟩⟩
  · rw [if_neg c]
    refine ⟨?_, lw, b1, b2, rfl, .inr ⟨c, ?_⟩⟩
    · rw [sign_app (by rw [app_list]; intro e; exact num_ne _ (List.append_eq_nil_iff.1 e).1), sign_app (num_ne _), sign_num]
    · rw [bare_app (by rw [app_list]; intro e; exact num_ne _ (List.append_eq_nil_iff.1 e).1), bare_app (num_ne _), bare_num]
      exact TL.partition_app slash_list (num_free _)
/-- and what makes one -/
theorem make_parts {z up st lo : Str} (hp : Txt.partition (bareS z) "/" = (up, st, lo)) (h1 : isFigs up = true) (x : Int) (hx : x = if hasSign z = true then 0 - intT up else intT up) (h0 : hasSign z = true → intT up ≠ 0)
    (b : Int) (hb : (st ≠ "/" ∧ b = 1) ∨ (st = "/" ∧ isFigs lo = true ∧ b = intT lo ∧ b ≠ 0 ∧ b ≠ 1 ∧ Int.gcd (intT up) b ≤ 1)) : readFx z = some (x, b) := by
  obtain ⟨c1, c2, c3, _⟩ := canon h1
  have ex : numT x = if hasSign z = true then "-" ++ up else up := by
    rw [hx]
    cases hs : hasSign z with
    | true =>
      rw [if_pos rfl, if_pos rfl, num_neg (by have := h0 hs; omega), ← c1]
    | false => rw [if_neg Bool.false_ne_true, if_neg Bool.false_ne_true, ← c1]
  have xa : x.natAbs = (intT up).natAbs := by
    rw [hx]
    split <;> omega
  have ga : ∀ b : Int, Int.gcd x b = Int.gcd (intT up) b := fun b => by
    show Nat.gcd x.natAbs _ = Nat.gcd _ _
    rw [xa]
  have join : ∀ t s : Str, (if hasSign z = true then ("-" : Str) ++ t else t) ++ s = if hasSign z = true then "-" ++ (t ++ s) else t ++ s := fun t s => by
    split
    · exact str_ext (by rw [app_list, app_list, app_list, app_list, List.append_assoc])
    · rfl
  have whole : (if hasSign z = true then ("-" : Str) ++ bareS z else bareS z) = z := by
    cases hs : hasSign z with
    | true => rw [if_pos rfl]; exact (sign_bare hs).symm
    | false => rw [if_neg Bool.false_ne_true]; exact (nosign_bare hs).symm
  rcases hb with ⟨n, rfl⟩ | ⟨rfl, f2, e2, n0, n1, g⟩
  · have eb : bareS z = up := by
      rcases part_whole (z := bareS z) with ⟨e, _⟩ | ⟨a, b, e, _, _⟩
      · rw [e] at hp
        cases hp
        rfl
      · rw [e] at hp
        cases hp
        exact absurd rfl n
    have es : showFx (x, 1) = z := by
      show (if (1 : Int) = 1 then numT x else _) = z
      rw [if_pos rfl, ex, ← eb]
      exact whole
    rw [← es]
    refine readFx_show ⟨by show (0 : Int) < 1; decide, ?_⟩ (by show x.natAbs < _; omega) (by show (1 : Int).natAbs < _; decide)
    show Int.gcd x 1 = 1
    exact Int.gcd_one
  · obtain ⟨d1, d2, d3, _⟩ := canon f2
    have eb : bareS z = up ++ "/" ++ lo := by
      rcases part_whole (z := bareS z) with ⟨e, _⟩ | ⟨a, b, e, w, _⟩
      · rw [e] at hp
        have := (Prod.mk.inj (Prod.mk.inj hp).2).1
        exact absurd this empty_ne
      · rw [e] at hp
        cases hp
        exact w
    have es : showFx (x, b) = z := by
      show (if b = 1 then numT x else numT x ++ "/" ++ numT b) = z
      rw [if_neg n1, ex, e2, ← d1, join, join, ← eb]
      exact whole
    rw [← es]
    refine readFx_show ⟨by show (0 : Int) < b; omega, ?_⟩ (by show x.natAbs < _; omega) (by show b.natAbs < _; rw [e2]; exact d3)
    show Int.gcd x b = 1
    rw [ga]
    have : 0 < Int.gcd (intT up) b := Int.gcd_pos_of_ne_zero_right _ n0
    omega
/-! ### contracts -/
def spShowFxW : Sp := fun vs H Q _ => ∃ (p : Addr) (f : Fx), vs = [.ref p] ∧ H p = some (.tup [.int f.1, .int f.2]) ∧ f.1.natAbs < 10 ^ 4300 ∧ f.2.natAbs < 10 ^ 4300 ∧ Q (.str (showFx f)) H
theorem numT_lenW {i : Int} (h : i.natAbs < 10 ^ 4300) : (numT i).length ≤ 4301 := numT_len (by decide) h
theorem bits_pow {i : Int} (h : Bits 2000 i) : i.natAbs < 10 ^ 4300 := Nat.lt_of_lt_of_le h (Nat.le_trans (Nat.pow_le_pow_right (by decide) (show 2000 ≤ 4300 by decide)) (Nat.pow_le_pow_left (by decide) _))
def spFiguresL : Sp := fun vs H Q _ => ∃ z : Str, vs = [.str z] ∧ z.length ≤ 500000 ∧ ∀ H', Ex H H' → Q (if isFigs z = true then .int (intT z) else .non) H'
def spLawIn : Sp := fun vs H Q _ => ∃ z : Str, vs = [.str z] ∧ z.length ≤ 400000 ∧ (readFx z = none → ∀ H', Ex H H' → Q .non H') ∧ ∀ f, readFx z = some f → ∀ q H', Ex H H' → H' q = some (.tup [.int f.1, .int f.2]) → Q (.ref q) H'
def heardD : Option Fx → D
  | none => .tup [.str "refused", .int 0, .bl true, .bl false]
  | some f => .tup [.str "told", .tup [.int f.1, .int f.2]]
def spHeard02 : Sp := fun vs H Q _ => ∃ z : Str, vs = [.str z] ∧ z.length ≤ 400000 ∧ ∀ v H', Ex H H' → Rep H' (heardD (readFx z)) v → Q v H'
def spRight02 : Sp := fun vs H Q _ => ∃ z : Str, vs = [.str z] ∧ z.length ≤ 400000 ∧ ∀ H', Ex H H' → Q (.bl true) H'
def spSpoilt02 : Sp := fun vs H Q _ => ∃ (p : Addr) (z : Str), vs = [.ref p, .str z] ∧ Box H p ∧ z.length ≤ 10000 ∧ ∀ (y : Str) (H' : Hp), y.length ≤ 6000 + z.length → But p H H' → Box H' p → Q (.str y) H'
def signs02 : Str := " !\"#$&'()*+,-./0123456789:;<=>?\x40ABCDEFGHIJKLMNOPQRSTUVWXYZ[\\]^_`abcdefghijklmnopqrstuvwxyz{|}~\n"
def some02 : List Str := ["", "-", "/", "0/1", "1/0", "-0", "+1", "01", "1/01", "2/4", "1/1", " 1", "1 ", "1/-2", "--1", "1//2"]
theorem some02_len : ∀ s ∈ some02, s.length ≤ 6000 := by decide +kernel
def spSigns02 : Sp := fun vs H Q _ => vs = [] ∧ Q (.str signs02) H
end Bk
namespace Lw
open PySem PySem.Spec PyProof.Rows L2 Bk
local macro_rules | `(tactic| walk_at "side") => `(tactic| first | assumption | decide | omega | exact .inl (.inl ⟨by decide, by decide⟩) | exact .inl (.inr ⟨by decide, by decide⟩) | exact ⟨by decide, by decide, by decide⟩ | exact ⟨by decide, by decide⟩)
local macro_rules | `(tactic| walk_at "heap") => `(tactic| first | assumption | exact upd_same | (refine Eq.trans (upd_ne (ne_of_none (by assumption) (by assumption))) ?_; assumption))
local macro_rules | `(tactic| walk_at "go1") => `(tactic| with_reducible first
  | refine g_seq ?_ | refine g_asg ?_ | refine g_ret ?_ | refine g_retN ?_ | refine g_drop ?_ | refine g_ifs ?_ | refine g_next ?_ | refine g_par ?_ | refine g_pair ?_ | refine g_name ?_ | refine g_sub ?_
  | refine g_c ?_ | refine g_op ?_ | refine g_un ?_ | refine g_cons ?_ | refine g_nil ?_ | refine g_cb ?_ | refine g_call ?_ | refine g_if ?_ | refine g_iT ?_ | refine g_iF ?_ | refine g_iNT ?_ | refine g_iNF ?_ | refine g_notV ?_ | refine g_not ?_ | refine g_and ?_ | refine g_or ?_
  | refine g_uT ?_ | refine g_test ?_ | refine g_tB ?_ | refine g_bl ?_ | refine g_chain ?_ | refine g_andV ?_ | refine g_orV ?_ | refine g_tbl ?_ | refine g_tin ?_ | refine g_addI ?_ | refine g_i0 ?_ | refine g_neg ?_ | refine g_eqI ?_ | refine g_neI ?_ | refine g_eqS ?_ | refine g_neS ?_ | refine g_neBB ?_ | refine g_neB ?_ | refine g_lz ?_ | refine g_bmS ?_ | refine g_tyStr ?_ | refine g_tyS ?_ | refine g_dnew ?_ | refine g_lcU ?_ | refine g_yes ?_ | refine g_dg ?_ | refine g_di ?_ | refine g_dni ?_ | refine g_dp ?_ | refine g_ds ?_ | refine g_for ?_ | refine g_rng1 ?_ | refine g_rng2 ?_ | refine g_zipA ?_ | refine g_sl ?_ | refine g_noP ?_ | refine g_part ?_ | refine g_exI ?_ | refine g_isNn ?_ | refine g_isNr ?_ | refine g_isNi ?_ | refine g_notNn ?_ | refine g_notNr ?_ | refine g_notNi ?_
  | refine g_abs ?_ | refine g_max ?_ | refine g_min ?_ | refine g_intI ?_ | refine g_intB ?_ | refine g_tup ?_ | refine g_lst ?_ | refine g_bm0 ?_ | refine g_bm ?_ | refine g_uJs ?_ | refine g_js ?_ | refine g_jn ?_ | refine g_fmt ?_)
local macro_rules | `(tactic| walk_at "go2") => `(tactic| first
  | refine g_var rfl ?_ | ((with_reducible apply g_iS); (· walk_at "side"))
  | ((with_reducible apply g_lenL); (· assumption)) | ((with_reducible apply g_lenT); (· assumption)) | ((with_reducible apply g_lenSq); (· assumption))
  | ((with_reducible apply g_ixL); (· assumption); (· rfl)) | ((with_reducible apply g_ixT); (· assumption); (· rfl))
  | ((with_reducible apply g_tyL); (· assumption)))
local macro_rules | `(tactic| walk_at "go") => `(tactic| repeat (first | walk_at "go1" | walk_at "go2"))
def top (i : Nat) : Stmt := PySem.Challenge.pw_boughkept_k02_fractions_written.main.body.getD i (.Pass ⟨0, 0, 0, 0⟩)
abbrev sI_NoText : Stmt := inClass (top 2) 0
theorem scI_NoText : FnScope ["self", "row"] ["self", "row"] (defScope sI_NoText) := ⟨rfl, rfl, rfl, by decide +kernel, rfl, by decide +kernel, by decide +kernel⟩
abbrev sI_NoWood : Stmt := inClass (top 3) 0
abbrev sI_NoTree : Stmt := inClass (top 4) 0
abbrev sI_NoWord : Stmt := inClass (top 5) 0
abbrev sI_TooLong : Stmt := inClass (top 6) 0
abbrev sI_NoReader : Stmt := inClass (top 7) 0
abbrev sI_NoFit : Stmt := inClass (top 8) 0
abbrev sI_NoPrinter : Stmt := inClass (top 9) 0
abbrev sI_NoTurner : Stmt := inClass (top 10) 0
abbrev sI_TooWide : Stmt := inClass (top 11) 0
abbrev sI_NoRow : Stmt := inClass (top 12) 0
abbrev sI_Nought : Stmt := inClass (top 13) 0
theorem scI_Nought : FnScope ["self"] ["self"] (defScope sI_Nought) := ⟨rfl, rfl, rfl, by decide +kernel, rfl, by decide +kernel, by decide +kernel⟩
abbrev sI_NotKept : Stmt := inClass (top 14) 0
abbrev sI_NoBox : Stmt := inClass (top 15) 0
abbrev s_common_part : Stmt := top 19
theorem sc_common_part : FnScope ["one", "other"] ["one", "other"] (defScope s_common_part) := ⟨rfl, rfl, rfl, by decide +kernel, rfl, by decide +kernel, by decide +kernel⟩
abbrev s_fraction_of : Stmt := top 20
theorem sc_fraction_of : FnScope ["upper", "lower", "part"] ["upper", "lower"] (defScope s_fraction_of) := ⟨rfl, rfl, rfl, by decide +kernel, rfl, by decide +kernel, by decide +kernel⟩
abbrev s_show_fraction : Stmt := top 21
theorem sc_show_fraction : FnScope ["one"] ["one"] (defScope s_show_fraction) := ⟨rfl, rfl, rfl, by decide +kernel, rfl, by decide +kernel, by decide +kernel⟩
abbrev s_is_figures : Stmt := top 22
abbrev N_is_figures : List Str := ["text", "sign"]
theorem sc_is_figures : FnScope ["text", "sign"] ["text"] (defScope s_is_figures) := ⟨rfl, rfl, rfl, by decide +kernel, rfl, by decide +kernel, by decide +kernel⟩
abbrev s_read_fraction : Stmt := top 23
theorem sc_read_fraction : FnScope ["text", "upper", "stroke", "lower", "figures", "found"] ["text"] (defScope s_read_fraction) := ⟨rfl, rfl, rfl, by decide +kernel, rfl, by decide +kernel, by decide +kernel⟩
abbrev s_law_box : Stmt := top 25
theorem sc_law_box : FnScope ["_law_script", "_law_k", "_law_cell", "_law_seed"] ["_law_script", "_law_k"] (defScope s_law_box) := ⟨rfl, rfl, rfl, by decide +kernel, rfl, by decide +kernel, by decide +kernel⟩
abbrev s_law_take : Stmt := top 26
theorem sc_law_take : FnScope ["_law_box_here", "_law_many", "_law_digit", "_law_one"] ["_law_box_here", "_law_many"] (defScope s_law_take) := ⟨rfl, rfl, rfl, by decide +kernel, rfl, by decide +kernel, by decide +kernel⟩
abbrev s_law_alike : Stmt := top 27
theorem sc_law_alike : FnScope ["_law_found", "_law_due", "_law_left", "_law_one", "_law_other"] ["_law_found", "_law_due"] (defScope s_law_alike) := ⟨rfl, rfl, rfl, by decide +kernel, rfl, by decide +kernel, by decide +kernel⟩
abbrev s_law_shared : Stmt := top 28
theorem sc_law_shared : FnScope ["_law_one", "_law_other"] ["_law_one", "_law_other"] (defScope s_law_shared) := ⟨rfl, rfl, rfl, by decide +kernel, rfl, by decide +kernel, by decide +kernel⟩
abbrev s_law_lowest : Stmt := top 29
theorem sc_law_lowest : FnScope ["_law_upper", "_law_lower", "_law_part"] ["_law_upper", "_law_lower"] (defScope s_law_lowest) := ⟨rfl, rfl, rfl, by decide +kernel, rfl, by decide +kernel, by decide +kernel⟩
abbrev s_law_signs : Stmt := top 30
theorem sc_law_signs : FnScope ["_law_found"] [] (defScope s_law_signs) := ⟨rfl, rfl, rfl, by decide +kernel, rfl, by decide +kernel, by decide +kernel⟩
abbrev s_law_figures : Stmt := top 31
abbrev N_law_figures : List Str := ["_law_text", "_law_sign"]
theorem sc_law_figures : FnScope ["_law_text", "_law_sign"] ["_law_text"] (defScope s_law_figures) := ⟨rfl, rfl, rfl, by decide +kernel, rfl, by decide +kernel, by decide +kernel⟩
abbrev s_law_in : Stmt := top 32
theorem sc_law_in : FnScope ["_law_text", "_law_sign", "_law_upper", "_law_stroke", "_law_lower", "_law_above", "_law_below"] ["_law_text"] (defScope s_law_in) := ⟨rfl, rfl, rfl, by decide +kernel, rfl, by decide +kernel, by decide +kernel⟩
abbrev s_law_spoilt : Stmt := top 33
theorem sc_law_spoilt : FnScope ["_law_box_here", "_law_text", "_law_way", "_law_at", "_law_signs_here", "_law_sign", "_law_some"] ["_law_box_here", "_law_text"] (defScope s_law_spoilt) := ⟨rfl, rfl, rfl, by decide +kernel, rfl, by decide +kernel, by decide +kernel⟩
abbrev s_law_heard : Stmt := top 34
theorem sc_law_heard : FnScope ["_law_text", "_law_found", "e", "_law_others"] ["_law_text"] (defScope s_law_heard) := ⟨rfl, rfl, rfl, by decide +kernel, rfl, by decide +kernel, by decide +kernel⟩
abbrev s_law_right : Stmt := top 35
theorem sc_law_right : FnScope ["_law_text", "_law_due"] ["_law_text"] (defScope s_law_right) := ⟨rfl, rfl, rfl, by decide +kernel, rfl, by decide +kernel, by decide +kernel⟩
abbrev s_law : Stmt := top 36
theorem sc_law : FnScope ["_law_script", "_law_k", "_law_box_here", "_law_wide", "_law_upper", "_law_lower", "_law_one", "_law_good", "_law_turn", "_law_text", "_law_more", "_law_great"] ["_law_script"] (defScope s_law) := ⟨rfl, rfl, rfl, by decide +kernel, rfl, by decide +kernel, by decide +kernel⟩
structure Txt (K : PySem.W.Frag) (mg : Str → Option Value) where
  a_BoughError : Addr
  m_BoughError : mg "BoughError" = some (.ref a_BoughError)
  x_BoughError : OexB K a_BoughError "ValueError.__new__" [.type "ValueError", .type "Exception", .type "BaseException", .type "object"]
  e_BoughError : PySem.W.exmOne K (.ref a_BoughError) (.ref a_BoughError) = some true
  c_BoughError : ExcC K a_BoughError
  i0_BoughError : PySem.W.isClsIn K a_BoughError = true
  t0_BoughError : PySem.W.typeIn K (.ref a_BoughError) = some (.type "type")
  s0_BoughError : PySem.W.subIn K (.ref a_BoughError) (.ref a_BoughError) = some true
  h_BoughError : XiC K a_BoughError "ValueError.__init__"
  a_NoText : Addr
  m_NoText : mg "NoText" = some (.ref a_NoText)
  x_NoText : OexB K a_NoText "ValueError.__new__" [.type "ValueError", .type "Exception", .type "BaseException", .type "object"]
  e_NoText : PySem.W.exmOne K (.ref a_NoText) (.ref a_NoText) = some true
  c_NoText : ExcC K a_NoText
  i0_NoText : PySem.W.isClsIn K a_NoText = true
  t0_NoText : PySem.W.typeIn K (.ref a_NoText) = some (.type "type")
  s0_NoText : PySem.W.subIn K (.ref a_NoText) (.ref a_NoText) = some true
  o_NoText : OexC K a_NoText
  aI_NoText : Addr
  dI_NoText : FuncData
  FI_NoText : Fun K "__init__" "NoText.__init__" sI_NoText aI_NoText dI_NoText
  bI_NoText : Binds K dI_NoText ["self", "row"] []
  i_NoText : PySem.W.findIn K (.ref a_NoText) "__init__" = some (some (.ref aI_NoText))
  t_NoText : PySem.W.typeIn K (.ref aI_NoText) = some (.type "function")
  n_NoText_row : PySem.W.findIn K (.ref a_NoText) "row" = some none
  a_NoWood : Addr
  m_NoWood : mg "NoWood" = some (.ref a_NoWood)
  x_NoWood : OexB K a_NoWood "ValueError.__new__" [.type "ValueError", .type "Exception", .type "BaseException", .type "object"]
  e_NoWood : PySem.W.exmOne K (.ref a_NoWood) (.ref a_NoWood) = some true
  c_NoWood : ExcC K a_NoWood
  i0_NoWood : PySem.W.isClsIn K a_NoWood = true
  t0_NoWood : PySem.W.typeIn K (.ref a_NoWood) = some (.type "type")
  s0_NoWood : PySem.W.subIn K (.ref a_NoWood) (.ref a_NoWood) = some true
  o_NoWood : OexC K a_NoWood
  aI_NoWood : Addr
  dI_NoWood : FuncData
  FI_NoWood : Fun K "__init__" "NoWood.__init__" sI_NoWood aI_NoWood dI_NoWood
  bI_NoWood : Binds K dI_NoWood ["self", "word", "name"] []
  i_NoWood : PySem.W.findIn K (.ref a_NoWood) "__init__" = some (some (.ref aI_NoWood))
  t_NoWood : PySem.W.typeIn K (.ref aI_NoWood) = some (.type "function")
  n_NoWood_word : PySem.W.findIn K (.ref a_NoWood) "word" = some none
  n_NoWood_name : PySem.W.findIn K (.ref a_NoWood) "name" = some none
  a_NoTree : Addr
  m_NoTree : mg "NoTree" = some (.ref a_NoTree)
  x_NoTree : OexB K a_NoTree "ValueError.__new__" [.type "ValueError", .type "Exception", .type "BaseException", .type "object"]
  e_NoTree : PySem.W.exmOne K (.ref a_NoTree) (.ref a_NoTree) = some true
  c_NoTree : ExcC K a_NoTree
  i0_NoTree : PySem.W.isClsIn K a_NoTree = true
  t0_NoTree : PySem.W.typeIn K (.ref a_NoTree) = some (.type "type")
  s0_NoTree : PySem.W.subIn K (.ref a_NoTree) (.ref a_NoTree) = some true
  o_NoTree : OexC K a_NoTree
  aI_NoTree : Addr
  dI_NoTree : FuncData
  FI_NoTree : Fun K "__init__" "NoTree.__init__" sI_NoTree aI_NoTree dI_NoTree
  bI_NoTree : Binds K dI_NoTree ["self", "at"] []
  i_NoTree : PySem.W.findIn K (.ref a_NoTree) "__init__" = some (some (.ref aI_NoTree))
  t_NoTree : PySem.W.typeIn K (.ref aI_NoTree) = some (.type "function")
  n_NoTree_at : PySem.W.findIn K (.ref a_NoTree) "at" = some none
  a_NoWord : Addr
  m_NoWord : mg "NoWord" = some (.ref a_NoWord)
  x_NoWord : OexB K a_NoWord "ValueError.__new__" [.type "ValueError", .type "Exception", .type "BaseException", .type "object"]
  e_NoWord : PySem.W.exmOne K (.ref a_NoWord) (.ref a_NoWord) = some true
  c_NoWord : ExcC K a_NoWord
  i0_NoWord : PySem.W.isClsIn K a_NoWord = true
  t0_NoWord : PySem.W.typeIn K (.ref a_NoWord) = some (.type "type")
  s0_NoWord : PySem.W.subIn K (.ref a_NoWord) (.ref a_NoWord) = some true
  o_NoWord : OexC K a_NoWord
  aI_NoWord : Addr
  dI_NoWord : FuncData
  FI_NoWord : Fun K "__init__" "NoWord.__init__" sI_NoWord aI_NoWord dI_NoWord
  bI_NoWord : Binds K dI_NoWord ["self", "at"] []
  i_NoWord : PySem.W.findIn K (.ref a_NoWord) "__init__" = some (some (.ref aI_NoWord))
  t_NoWord : PySem.W.typeIn K (.ref aI_NoWord) = some (.type "function")
  n_NoWord_at : PySem.W.findIn K (.ref a_NoWord) "at" = some none
  a_TooLong : Addr
  m_TooLong : mg "TooLong" = some (.ref a_TooLong)
  x_TooLong : OexB K a_TooLong "ValueError.__new__" [.type "ValueError", .type "Exception", .type "BaseException", .type "object"]
  e_TooLong : PySem.W.exmOne K (.ref a_TooLong) (.ref a_TooLong) = some true
  c_TooLong : ExcC K a_TooLong
  i0_TooLong : PySem.W.isClsIn K a_TooLong = true
  t0_TooLong : PySem.W.typeIn K (.ref a_TooLong) = some (.type "type")
  s0_TooLong : PySem.W.subIn K (.ref a_TooLong) (.ref a_TooLong) = some true
  o_TooLong : OexC K a_TooLong
  aI_TooLong : Addr
  dI_TooLong : FuncData
  FI_TooLong : Fun K "__init__" "TooLong.__init__" sI_TooLong aI_TooLong dI_TooLong
  bI_TooLong : Binds K dI_TooLong ["self", "most"] []
  i_TooLong : PySem.W.findIn K (.ref a_TooLong) "__init__" = some (some (.ref aI_TooLong))
  t_TooLong : PySem.W.typeIn K (.ref aI_TooLong) = some (.type "function")
  n_TooLong_most : PySem.W.findIn K (.ref a_TooLong) "most" = some none
  a_NoReader : Addr
  m_NoReader : mg "NoReader" = some (.ref a_NoReader)
  x_NoReader : OexB K a_NoReader "ValueError.__new__" [.type "ValueError", .type "Exception", .type "BaseException", .type "object"]
  e_NoReader : PySem.W.exmOne K (.ref a_NoReader) (.ref a_NoReader) = some true
  c_NoReader : ExcC K a_NoReader
  i0_NoReader : PySem.W.isClsIn K a_NoReader = true
  t0_NoReader : PySem.W.typeIn K (.ref a_NoReader) = some (.type "type")
  s0_NoReader : PySem.W.subIn K (.ref a_NoReader) (.ref a_NoReader) = some true
  o_NoReader : OexC K a_NoReader
  aI_NoReader : Addr
  dI_NoReader : FuncData
  FI_NoReader : Fun K "__init__" "NoReader.__init__" sI_NoReader aI_NoReader dI_NoReader
  bI_NoReader : Binds K dI_NoReader ["self", "word", "maker"] []
  i_NoReader : PySem.W.findIn K (.ref a_NoReader) "__init__" = some (some (.ref aI_NoReader))
  t_NoReader : PySem.W.typeIn K (.ref aI_NoReader) = some (.type "function")
  n_NoReader_word : PySem.W.findIn K (.ref a_NoReader) "word" = some none
  n_NoReader_maker : PySem.W.findIn K (.ref a_NoReader) "maker" = some none
  a_NoFit : Addr
  m_NoFit : mg "NoFit" = some (.ref a_NoFit)
  x_NoFit : OexB K a_NoFit "ValueError.__new__" [.type "ValueError", .type "Exception", .type "BaseException", .type "object"]
  e_NoFit : PySem.W.exmOne K (.ref a_NoFit) (.ref a_NoFit) = some true
  c_NoFit : ExcC K a_NoFit
  i0_NoFit : PySem.W.isClsIn K a_NoFit = true
  t0_NoFit : PySem.W.typeIn K (.ref a_NoFit) = some (.type "type")
  s0_NoFit : PySem.W.subIn K (.ref a_NoFit) (.ref a_NoFit) = some true
  o_NoFit : OexC K a_NoFit
  aI_NoFit : Addr
  dI_NoFit : FuncData
  FI_NoFit : Fun K "__init__" "NoFit.__init__" sI_NoFit aI_NoFit dI_NoFit
  bI_NoFit : Binds K dI_NoFit ["self", "at"] []
  i_NoFit : PySem.W.findIn K (.ref a_NoFit) "__init__" = some (some (.ref aI_NoFit))
  t_NoFit : PySem.W.typeIn K (.ref aI_NoFit) = some (.type "function")
  n_NoFit_at : PySem.W.findIn K (.ref a_NoFit) "at" = some none
  a_NoPrinter : Addr
  m_NoPrinter : mg "NoPrinter" = some (.ref a_NoPrinter)
  x_NoPrinter : OexB K a_NoPrinter "ValueError.__new__" [.type "ValueError", .type "Exception", .type "BaseException", .type "object"]
  e_NoPrinter : PySem.W.exmOne K (.ref a_NoPrinter) (.ref a_NoPrinter) = some true
  c_NoPrinter : ExcC K a_NoPrinter
  i0_NoPrinter : PySem.W.isClsIn K a_NoPrinter = true
  t0_NoPrinter : PySem.W.typeIn K (.ref a_NoPrinter) = some (.type "type")
  s0_NoPrinter : PySem.W.subIn K (.ref a_NoPrinter) (.ref a_NoPrinter) = some true
  o_NoPrinter : OexC K a_NoPrinter
  aI_NoPrinter : Addr
  dI_NoPrinter : FuncData
  FI_NoPrinter : Fun K "__init__" "NoPrinter.__init__" sI_NoPrinter aI_NoPrinter dI_NoPrinter
  bI_NoPrinter : Binds K dI_NoPrinter ["self", "word", "maker"] []
  i_NoPrinter : PySem.W.findIn K (.ref a_NoPrinter) "__init__" = some (some (.ref aI_NoPrinter))
  t_NoPrinter : PySem.W.typeIn K (.ref aI_NoPrinter) = some (.type "function")
  n_NoPrinter_word : PySem.W.findIn K (.ref a_NoPrinter) "word" = some none
  n_NoPrinter_maker : PySem.W.findIn K (.ref a_NoPrinter) "maker" = some none
  a_NoTurner : Addr
  m_NoTurner : mg "NoTurner" = some (.ref a_NoTurner)
  x_NoTurner : OexB K a_NoTurner "ValueError.__new__" [.type "ValueError", .type "Exception", .type "BaseException", .type "object"]
  e_NoTurner : PySem.W.exmOne K (.ref a_NoTurner) (.ref a_NoTurner) = some true
  c_NoTurner : ExcC K a_NoTurner
  i0_NoTurner : PySem.W.isClsIn K a_NoTurner = true
  t0_NoTurner : PySem.W.typeIn K (.ref a_NoTurner) = some (.type "type")
  s0_NoTurner : PySem.W.subIn K (.ref a_NoTurner) (.ref a_NoTurner) = some true
  o_NoTurner : OexC K a_NoTurner
  aI_NoTurner : Addr
  dI_NoTurner : FuncData
  FI_NoTurner : Fun K "__init__" "NoTurner.__init__" sI_NoTurner aI_NoTurner dI_NoTurner
  bI_NoTurner : Binds K dI_NoTurner ["self", "word", "maker"] []
  i_NoTurner : PySem.W.findIn K (.ref a_NoTurner) "__init__" = some (some (.ref aI_NoTurner))
  t_NoTurner : PySem.W.typeIn K (.ref aI_NoTurner) = some (.type "function")
  n_NoTurner_word : PySem.W.findIn K (.ref a_NoTurner) "word" = some none
  n_NoTurner_maker : PySem.W.findIn K (.ref a_NoTurner) "maker" = some none
  a_TooWide : Addr
  m_TooWide : mg "TooWide" = some (.ref a_TooWide)
  x_TooWide : OexB K a_TooWide "ValueError.__new__" [.type "ValueError", .type "Exception", .type "BaseException", .type "object"]
  e_TooWide : PySem.W.exmOne K (.ref a_TooWide) (.ref a_TooWide) = some true
  c_TooWide : ExcC K a_TooWide
  i0_TooWide : PySem.W.isClsIn K a_TooWide = true
  t0_TooWide : PySem.W.typeIn K (.ref a_TooWide) = some (.type "type")
  s0_TooWide : PySem.W.subIn K (.ref a_TooWide) (.ref a_TooWide) = some true
  o_TooWide : OexC K a_TooWide
  aI_TooWide : Addr
  dI_TooWide : FuncData
  FI_TooWide : Fun K "__init__" "TooWide.__init__" sI_TooWide aI_TooWide dI_TooWide
  bI_TooWide : Binds K dI_TooWide ["self", "rooms"] []
  i_TooWide : PySem.W.findIn K (.ref a_TooWide) "__init__" = some (some (.ref aI_TooWide))
  t_TooWide : PySem.W.typeIn K (.ref aI_TooWide) = some (.type "function")
  n_TooWide_rooms : PySem.W.findIn K (.ref a_TooWide) "rooms" = some none
  a_NoRow : Addr
  m_NoRow : mg "NoRow" = some (.ref a_NoRow)
  x_NoRow : OexB K a_NoRow "ValueError.__new__" [.type "ValueError", .type "Exception", .type "BaseException", .type "object"]
  e_NoRow : PySem.W.exmOne K (.ref a_NoRow) (.ref a_NoRow) = some true
  c_NoRow : ExcC K a_NoRow
  i0_NoRow : PySem.W.isClsIn K a_NoRow = true
  t0_NoRow : PySem.W.typeIn K (.ref a_NoRow) = some (.type "type")
  s0_NoRow : PySem.W.subIn K (.ref a_NoRow) (.ref a_NoRow) = some true
  aI_NoRow : Addr
  dI_NoRow : FuncData
  FI_NoRow : Fun K "__init__" "NoRow.__init__" sI_NoRow aI_NoRow dI_NoRow
  bI_NoRow : Binds K dI_NoRow ["self"] []
  i_NoRow : PySem.W.findIn K (.ref a_NoRow) "__init__" = some (some (.ref aI_NoRow))
  t_NoRow : PySem.W.typeIn K (.ref aI_NoRow) = some (.type "function")
  a_Nought : Addr
  m_Nought : mg "Nought" = some (.ref a_Nought)
  x_Nought : OexB K a_Nought "ZeroDivisionError.__new__" [.type "ZeroDivisionError", .type "ArithmeticError", .type "Exception", .type "BaseException", .type "object"]
  e_Nought : PySem.W.exmOne K (.ref a_Nought) (.ref a_Nought) = some true
  c_Nought : ExcC K a_Nought
  i0_Nought : PySem.W.isClsIn K a_Nought = true
  t0_Nought : PySem.W.typeIn K (.ref a_Nought) = some (.type "type")
  s0_Nought : PySem.W.subIn K (.ref a_Nought) (.ref a_Nought) = some true
  aI_Nought : Addr
  dI_Nought : FuncData
  FI_Nought : Fun K "__init__" "Nought.__init__" sI_Nought aI_Nought dI_Nought
  bI_Nought : Binds K dI_Nought ["self"] []
  i_Nought : PySem.W.findIn K (.ref a_Nought) "__init__" = some (some (.ref aI_Nought))
  t_Nought : PySem.W.typeIn K (.ref aI_Nought) = some (.type "function")
  a_NotKept : Addr
  m_NotKept : mg "NotKept" = some (.ref a_NotKept)
  e_NotKept : PySem.W.exmOne K (.ref a_NotKept) (.ref a_NotKept) = some true
  c_NotKept : ExcC K a_NotKept
  i0_NotKept : PySem.W.isClsIn K a_NotKept = true
  t0_NotKept : PySem.W.typeIn K (.ref a_NotKept) = some (.type "type")
  s0_NotKept : PySem.W.subIn K (.ref a_NotKept) (.ref a_NotKept) = some true
  aI_NotKept : Addr
  dI_NotKept : FuncData
  FI_NotKept : Fun K "__init__" "NotKept.__init__" sI_NotKept aI_NotKept dI_NotKept
  bI_NotKept : Binds K dI_NotKept ["self", "name"] []
  i_NotKept : PySem.W.findIn K (.ref a_NotKept) "__init__" = some (some (.ref aI_NotKept))
  t_NotKept : PySem.W.typeIn K (.ref aI_NotKept) = some (.type "function")
  n_NotKept_name : PySem.W.findIn K (.ref a_NotKept) "name" = some none
  a_NoBox : Addr
  m_NoBox : mg "NoBox" = some (.ref a_NoBox)
  e_NoBox : PySem.W.exmOne K (.ref a_NoBox) (.ref a_NoBox) = some true
  c_NoBox : ExcC K a_NoBox
  i0_NoBox : PySem.W.isClsIn K a_NoBox = true
  t0_NoBox : PySem.W.typeIn K (.ref a_NoBox) = some (.type "type")
  s0_NoBox : PySem.W.subIn K (.ref a_NoBox) (.ref a_NoBox) = some true
  aI_NoBox : Addr
  dI_NoBox : FuncData
  FI_NoBox : Fun K "__init__" "NoBox.__init__" sI_NoBox aI_NoBox dI_NoBox
  bI_NoBox : Binds K dI_NoBox ["self", "box"] []
  i_NoBox : PySem.W.findIn K (.ref a_NoBox) "__init__" = some (some (.ref aI_NoBox))
  t_NoBox : PySem.W.typeIn K (.ref aI_NoBox) = some (.type "function")
  n_NoBox_box : PySem.W.findIn K (.ref a_NoBox) "box" = some none
  v_IndexError : PySem.W.findCls K (.type "IndexError") (.type "type") "__init__" = some (.val (.builtin "IndexError.__init__"))
  v_KeyError : PySem.W.findCls K (.type "KeyError") (.type "type") "__init__" = some (.val (.builtin "KeyError.__init__"))
  v_ValueError : PySem.W.findCls K (.type "ValueError") (.type "type") "__init__" = some (.val (.builtin "ValueError.__init__"))
  v_ZeroDivisionError : PySem.W.findCls K (.type "ZeroDivisionError") (.type "type") "__init__" = some (.val (.builtin "ZeroDivisionError.__init__"))
  m_FIGURES : ∃ u, mg "FIGURES" = some u ∧ RelV (.str "0123456789") u
  m_MOST_FIGURES : ∃ u, mg "MOST_FIGURES" = some u ∧ RelV (.int 30) u
  a_common_part : Addr
  d_common_part : FuncData
  m_common_part : mg "common_part" = some (.ref a_common_part)
  b_common_part : Binds K d_common_part ["one", "other"] []
  F_common_part : Fun K "common_part" "common_part" s_common_part a_common_part d_common_part
  a_fraction_of : Addr
  d_fraction_of : FuncData
  m_fraction_of : mg "fraction_of" = some (.ref a_fraction_of)
  b_fraction_of : Binds K d_fraction_of ["upper", "lower"] []
  F_fraction_of : FunD K "fraction_of" "fraction_of" (defArgs s_fraction_of) (defBody s_fraction_of) (defScope s_fraction_of) [.int 1] [] a_fraction_of d_fraction_of
  bv_fraction_of1 : ∃ ds, Vals [.int 1] ds ∧ Binds K d_fraction_of ["upper", "lower"] ds
  a_show_fraction : Addr
  d_show_fraction : FuncData
  m_show_fraction : mg "show_fraction" = some (.ref a_show_fraction)
  b_show_fraction : Binds K d_show_fraction ["one"] []
  F_show_fraction : Fun K "show_fraction" "show_fraction" s_show_fraction a_show_fraction d_show_fraction
  a_is_figures : Addr
  d_is_figures : FuncData
  m_is_figures : mg "is_figures" = some (.ref a_is_figures)
  b_is_figures : Binds K d_is_figures ["text"] []
  F_is_figures : Fun K "is_figures" "is_figures" s_is_figures a_is_figures d_is_figures
  a_read_fraction : Addr
  d_read_fraction : FuncData
  m_read_fraction : mg "read_fraction" = some (.ref a_read_fraction)
  b_read_fraction : Binds K d_read_fraction ["text"] []
  F_read_fraction : Fun K "read_fraction" "read_fraction" s_read_fraction a_read_fraction d_read_fraction
  a_law_box : Addr
  d_law_box : FuncData
  m_law_box : mg "_law_box" = some (.ref a_law_box)
  b_law_box : Binds K d_law_box ["_law_script", "_law_k"] []
  F_law_box : Fun K "_law_box" "_law_box" s_law_box a_law_box d_law_box
  a_law_take : Addr
  d_law_take : FuncData
  m_law_take : mg "_law_take" = some (.ref a_law_take)
  b_law_take : Binds K d_law_take ["_law_box_here", "_law_many"] []
  F_law_take : Fun K "_law_take" "_law_take" s_law_take a_law_take d_law_take
  a_law_alike : Addr
  d_law_alike : FuncData
  m_law_alike : mg "_law_alike" = some (.ref a_law_alike)
  b_law_alike : Binds K d_law_alike ["_law_found", "_law_due"] []
  F_law_alike : Fun K "_law_alike" "_law_alike" s_law_alike a_law_alike d_law_alike
  a_law_shared : Addr
  d_law_shared : FuncData
  m_law_shared : mg "_law_shared" = some (.ref a_law_shared)
  b_law_shared : Binds K d_law_shared ["_law_one", "_law_other"] []
  F_law_shared : Fun K "_law_shared" "_law_shared" s_law_shared a_law_shared d_law_shared
  a_law_lowest : Addr
  d_law_lowest : FuncData
  m_law_lowest : mg "_law_lowest" = some (.ref a_law_lowest)
  b_law_lowest : Binds K d_law_lowest ["_law_upper", "_law_lower"] []
  F_law_lowest : Fun K "_law_lowest" "_law_lowest" s_law_lowest a_law_lowest d_law_lowest
  a_law_signs : Addr
  d_law_signs : FuncData
  m_law_signs : mg "_law_signs" = some (.ref a_law_signs)
  b_law_signs : Binds K d_law_signs [] []
  F_law_signs : Fun K "_law_signs" "_law_signs" s_law_signs a_law_signs d_law_signs
  a_law_figures : Addr
  d_law_figures : FuncData
  m_law_figures : mg "_law_figures" = some (.ref a_law_figures)
  b_law_figures : Binds K d_law_figures ["_law_text"] []
  F_law_figures : Fun K "_law_figures" "_law_figures" s_law_figures a_law_figures d_law_figures
  a_law_in : Addr
  d_law_in : FuncData
  m_law_in : mg "_law_in" = some (.ref a_law_in)
  b_law_in : Binds K d_law_in ["_law_text"] []
  F_law_in : Fun K "_law_in" "_law_in" s_law_in a_law_in d_law_in
  a_law_spoilt : Addr
  d_law_spoilt : FuncData
  m_law_spoilt : mg "_law_spoilt" = some (.ref a_law_spoilt)
  b_law_spoilt : Binds K d_law_spoilt ["_law_box_here", "_law_text"] []
  F_law_spoilt : Fun K "_law_spoilt" "_law_spoilt" s_law_spoilt a_law_spoilt d_law_spoilt
  a_law_heard : Addr
  d_law_heard : FuncData
  m_law_heard : mg "_law_heard" = some (.ref a_law_heard)
  b_law_heard : Binds K d_law_heard ["_law_text"] []
  F_law_heard : Fun K "_law_heard" "_law_heard" s_law_heard a_law_heard d_law_heard
  a_law_right : Addr
  d_law_right : FuncData
  m_law_right : mg "_law_right" = some (.ref a_law_right)
  b_law_right : Binds K d_law_right ["_law_text"] []
  F_law_right : Fun K "_law_right" "_law_right" s_law_right a_law_right d_law_right
  a_law : Addr
  d_law : FuncData
  m_law : mg "law" = some (.ref a_law)
  b_law : Binds K d_law ["_law_script"] []
  F_law : Fun K "law" "law" s_law a_law d_law
  z_IndexError : mg "IndexError" = none
  z_KeyError : mg "KeyError" = none
  z_ValueError : mg "ValueError" = none
  z_ZeroDivisionError : mg "ZeroDivisionError" = none
  z_abs : mg "abs" = none
  z_all : mg "all" = none
  z_bool : mg "bool" = none
  z_int : mg "int" = none
  z_isinstance : mg "isinstance" = none
  z_len : mg "len" = none
  z_list : mg "list" = none
  z_max : mg "max" = none
  z_min : mg "min" = none
  z_range : mg "range" = none
  z_str : mg "str" = none
  z_tuple : mg "tuple" = none
  z_zip : mg "zip" = none
  lim : Lim K
  hE : PySem.W.subIn K (.ref a_NoText) (.ref a_BoughError) = some true
  hV : PySem.W.subIn K (.ref a_NoText) (.type "ValueError") = some true
  h0 : PySem.W.subIn K (.ref a_NoText) (.ref a_NoFit) = some false
  h1 : PySem.W.subIn K (.ref a_NoText) (.ref a_NoPrinter) = some false
  h2 : PySem.W.subIn K (.ref a_NoText) (.ref a_NoReader) = some false
  h3 : PySem.W.subIn K (.ref a_NoText) (.ref a_NoRow) = some false
  h4 : PySem.W.subIn K (.ref a_NoText) (.ref a_NoTree) = some false
  h5 : PySem.W.subIn K (.ref a_NoText) (.ref a_NoTurner) = some false
  h6 : PySem.W.subIn K (.ref a_NoText) (.ref a_NoWood) = some false
  h7 : PySem.W.subIn K (.ref a_NoText) (.ref a_NoWord) = some false
  h8 : PySem.W.subIn K (.ref a_NoText) (.ref a_TooLong) = some false
  h9 : PySem.W.subIn K (.ref a_NoText) (.ref a_TooWide) = some false
  h10 : PySem.W.subIn K (.ref a_NoText) (.ref a_NoBox) = some false
  h11 : PySem.W.subIn K (.ref a_NoText) (.ref a_NotKept) = some false
  h12 : PySem.W.subIn K (.ref a_NoText) (.ref a_Nought) = some false
section
variable {P : Program} {w : World} {K : PySem.W.Frag} {mg : Str → Option Value} {base : Heap}
theorem ok_init_NoText (T : Txt K mg) : FnOk P w K mg base (L2.CX P w) 1 T.aI_NoText T.dI_NoText ["self", "row"] (spExc1 K ([.type "ValueError", .type "Exception", .type "BaseException", .type "object"]) "row") := by
  refine T.FI_NoText.okX scI_NoText (fun vs H Q E h => ?_) (fun cdv A outer s H vs Q E hr h => ?_)
  · obtain ⟨_, _, _, rfl, _⟩ := h
    rfl
  obtain ⟨a, C, y, rfl, ho, ho2, n1, ha, q⟩ := h
  refine ⟨_, pss_cons (ps_expr (pe_xinitO PySem.F.excBase_ValueError T.h_BoughError (by decide +kernel) rfl T.m_BoughError (pa_cons (uv 0) (pa_cons pe_str pa_nil)))) (pss_one (ps_ost (uv 0) (uv 1))), ?_⟩
  refine g_seq (g_drop ?_)
  show tCons (uV 0) _ _ _ _
  walk_at "go"
  refine ⟨C, by decide, ho, ha, ?_⟩
  walk_at "go"
  refine ⟨a, C, rfl, ho2, n1, .inl ⟨ha, fun dx hd ne => ?_⟩⟩
  exact q dx hd ne
/-! NoWood: made nowhere here -/
/-! NoTree: made nowhere here -/
/-! NoWord: made nowhere here -/
/-! TooLong: made nowhere here -/
/-! NoReader: made nowhere here -/
/-! NoFit: made nowhere here -/
/-! NoPrinter: made nowhere here -/
/-! NoTurner: made nowhere here -/
/-! TooWide: made nowhere here -/
/-! NoRow: made nowhere here -/
def spInit0 (K : PySem.W.Frag) (newId : String) (bmB : List Value) : Sp := fun vs H Q _ => ∃ (a C : Addr), vs = [.ref a] ∧ OexB K C newId bmB ∧ H a = some (exo a C none) ∧ Q .non H
theorem ok_init_Nought (T : Txt K mg) (z : mg "ZeroDivisionError" = none) : FnOk P w K mg base (L2.CX P w) 1 T.aI_Nought T.dI_Nought ["self"] (spInit0 K "ZeroDivisionError.__new__" [.type "ZeroDivisionError", .type "ArithmeticError", .type "Exception", .type "BaseException", .type "object"]) := by
  refine T.FI_Nought.okX scI_Nought (fun vs H Q E h => ?_) (fun cdv A outer s H vs Q E hr h => ?_)
  · obtain ⟨a, C, rfl, _⟩ := h
    rfl
  obtain ⟨a, C, rfl, ho, ha, q⟩ := h
  refine ⟨_, pss_one (ps_expr (pe_xinitB PySem.F.excBase_ZeroDivisionError (by kernel_rfl) (by decide +kernel) rfl z (by decide +kernel) T.v_ZeroDivisionError (by decide +kernel) (pa_cons (uv 0) (pa_cons pe_str pa_nil)))), ?_⟩
  refine g_drop ?_
  show tCons (uV 0) _ _ _ _
  walk_at "go"
  exact ⟨C, by decide, ho, ha, q⟩
/-! NotKept: made nowhere here -/
/-! NoBox: made nowhere here -/
theorem vi_common_part_0 : Vis (defScope s_common_part) "one" := by first | exact Or.inl (by decide +kernel) | exact Or.inr (Or.inl (by decide +kernel)) | exact Or.inr (Or.inr (by decide +kernel))
theorem vi_common_part_1 : Vis (defScope s_common_part) "other" := by first | exact Or.inl (by decide +kernel) | exact Or.inr (Or.inl (by decide +kernel)) | exact Or.inr (Or.inr (by decide +kernel))
theorem gcd_fmod (x y : Int) : Int.gcd y (x.fmod y) = Int.gcd x y := by
  have e : x.fmod y = x - x.fdiv y * y := by
    have := Int.fmod_add_mul_fdiv x y
    rw [Int.mul_comm] at this
    omega
  rw [e, Int.gcd_comm x y, Int.gcd_sub_mul_right_right]
theorem fmod_less {x y : Int} (h : y ≠ 0) : (x.fmod y).natAbs < y.natAbs := by
  by_cases c : 0 < y
  · have a1 := Int.fmod_nonneg_of_pos x c
    have a2 := Int.fmod_lt_of_pos x c
    omega
  · have a1 := Int.fmod_nonneg_of_pos (-x) (b := -y) (by omega)
    have a2 := Int.fmod_lt_of_pos (-x) (b := -y) (by omega)
    rw [Int.neg_fmod_neg] at a1 a2
    omega
def spGcd : Sp := fun vs H Q _ => ∃ a b : Int, vs = [.int a, .int b] ∧ Q (.int (Int.gcd a b : Nat)) H
theorem ok_common_part (T : Txt K mg) : FnOk P w K mg base (L2.CX P w) 1 T.a_common_part T.d_common_part ["one", "other"] spGcd := by
  refine T.F_common_part.okX sc_common_part (fun vs H Q E h => ?_) (fun cdv A outer s H vs Q E hr h => ?_)
  · obtain ⟨a, b, rfl, _⟩ := h
    rfl
  obtain ⟨a, b, rfl, q⟩ := h
  refine ⟨_, (pss_cons (ps_while (passes_of rfl) (pt_cmpR op_ne (uv 1 (hv := vi_common_part_1)) pe_int (nomark _)) (pss_one (ps_par (i := 0) (j := 1) rfl sc_common_part.nd rfl rfl (by decide) rfl rfl (pa_cons (uv 1 (hv := vi_common_part_1)) (pa_cons (pe_op uo_mod (uv 0 (hv := vi_common_part_0)) (uv 1 (hv := vi_common_part_1))) pa_nil)) rfl)))
      (pss_one (ps_ret (pe_callB uk_abs rfl T.z_abs boot_abs (pa_cons (uv 0 (hv := vi_common_part_0)) pa_nil))))), ?_⟩
  refine g_seq (g_while (fun m σ H1 => ∃ x y : Int, σ = [some (.int x), some (.int y)] ∧ H1 = H ∧ Int.gcd x y = Int.gcd a b ∧ m = y.natAbs) _ ⟨a, b, rfl, rfl, rfl, rfl⟩ ?_)
  rintro m σ H1 ⟨x, y, rfl, rfl, hg, rfl⟩
  walk_at "go"
  refine i_neI (fun c => g_wn ?_) fun c => ?_
  · walk_at "go"
    exact ⟨_, fmod_less c, y, x.fmod y, rfl, rfl, (gcd_fmod x y).trans hg, rfl⟩
  · walk_at "go"
    subst c
    rw [Int.gcd_zero_right] at hg
    rw [hg]
    exact q
theorem vi_show_fraction_0 : Vis (defScope s_show_fraction) "one" := by first | exact Or.inl (by decide +kernel) | exact Or.inr (Or.inl (by decide +kernel)) | exact Or.inr (Or.inr (by decide +kernel))
theorem ok_show_fraction (T : Txt K mg) : FnOk P w K mg base (L2.CX P w) 1 T.a_show_fraction T.d_show_fraction ["one"] spShowFxW := by
  refine T.F_show_fraction.okX sc_show_fraction (fun vs H Q E h => ?_) (fun cdv A outer s H vs Q E hr h => ?_)
  · obtain ⟨_, _, rfl, _⟩ := h
    rfl
  obtain ⟨p, f, rfl, hp, b1, b2, q⟩ := h
  refine ⟨_, (pss_cons (ps_if (pt_cmpR op_eq (pe_ix ux_seq (uv 0 (hv := vi_show_fraction_0)) pe_int (fun _ _ => rfl)) pe_int (nomark _)) (pss_one (ps_ret (pe_callTy (uk_strW T.lim rfl) rfl T.z_str boot_str (pa_cons (pe_ix ux_seq (uv 0 (hv := vi_show_fraction_0)) pe_int (fun _ _ => rfl)) pa_nil)))) pss_nil)
      (pss_one (ps_ret (pe_joinU (PJ.cons (pe_fmtW T.lim rfl (pe_ix ux_seq (uv 0 (hv := vi_show_fraction_0)) pe_int (fun _ _ => rfl))) (PJ.cons pe_str (PJ.cons (pe_fmtW T.lim rfl (pe_ix ux_seq (uv 0 (hv := vi_show_fraction_0)) pe_int (fun _ _ => rfl))) PJ.nil))))))), ?_⟩
  walk_at "go"
  refine i_eqI (fun c => ?_) fun c => ?_
  · walk_at "go"
    refine ⟨b1, ?_⟩
    have e : showFx f = numT f.1 := if_pos c
    rw [← e]
    exact q
  · have e : showFx f = numT f.1 ++ "/" ++ numT f.2 := if_neg c
    rw [e] at q
    walk_at "go"
    have l1 := numT_lenW b1
    have l2 := numT_lenW b2
    unfold uFmtW
    walk_at "go"
    refine ⟨b1, ?_⟩
    refine g_jv (by rw [empty_len]; omega) ?_
    rw [empty_app]
    walk_at "go"
    refine g_jv (by show _ + 1 ≤ _; omega) ?_
    walk_at "go"
    walk_at "go"
    refine ⟨b2, ?_⟩
    refine g_jv (by rw [app_len]; show _ + 1 + _ ≤ _; omega) ?_
    walk_at "go"
    exact q
theorem vi_is_figures_0 : Vis (defScope s_is_figures) "text" := by first | exact Or.inl (by decide +kernel) | exact Or.inr (Or.inl (by decide +kernel)) | exact Or.inr (Or.inr (by decide +kernel))
theorem ok_is_figures (T : Txt K mg) : FnOk P w K mg base (L2.CX P w) 1 T.a_is_figures T.d_is_figures ["text"] spIsFigs := by
  refine T.F_is_figures.okX sc_is_figures (fun vs H Q E h => ?_) (fun cdv A outer s H vs Q E hr h => ?_)
  · obtain ⟨_, rfl, _⟩ := h
    rfl
  obtain ⟨z, rfl, hz, q⟩ := h
  refine ⟨_, (pss_cons (ps_if (PW.pt (pw_or (pt_not (pt_chain uo_lt uo_le pe_int (pe_callB uk_len rfl T.z_len boot_len (pa_cons (uv 0 (hv := vi_is_figures_0)) pa_nil)) (pe_con rfl T.m_MOST_FIGURES))) (pw_or1 (pt_not (ut (pe_callB (cr_all rfl) rfl T.z_all boot_all (pa_cons (pe_lc (own := [("sign", 1)]) (g := gName 1) rfl sc_is_figures.nd (ui_seq (uv 0 (hv := vi_is_figures_0))) (blkOk_by (own := [("sign", 1)]) (N := N_is_figures) (sc := defScope s_is_figures) (by decide +kernel)) (fun _ _ _ _ _ => (pg_name (i := 1) sc_is_figures.nd rfl (by first | exact Or.inl rfl | exact Or.inr rfl))) (fun _ _ _ _ _ => pts_nil) (fun _ _ _ _ _ => (pe_cmpR (show OpR _ (compareOp .In) (uIn K false) from uo_in) (uv 1) (pe_con rfl T.m_FIGURES) rfl))) pa_nil))))))) (pss_one (ps_ret pe_bl)) pss_nil)
      (pss_one (ps_ret (pe_or (pe_cmpR op_eq (uv 0 (hv := vi_is_figures_0)) pe_str (nomark _)) (pe_one (pe_cmpR op_ne (pe_ix ux_seq (uv 0 (hv := vi_is_figures_0)) pe_int (fun _ _ => rfl)) pe_str (nomark _))))))), ?_⟩
  have hz2 : z.length ≤ 1000000 := Nat.le_trans hz (by decide)
  have fin : ∀ b, b = isFigs z → ∀ H', Ex H H' → Q (.bl b) H' := fun b e H' x => e ▸ q H' x
  walk_at "go"
  refine g_lenStr hz2 ?_
  walk_at "go"
  have no1 : ¬ (0 < z.length ∧ z.length ≤ 30) → isFigs z = false := fun c => by unfold isFigs; rw [decide_eq_false c, Bool.false_and]
  have yes1 : (0 < z.length ∧ z.length ≤ 30) → isFigs z = (z.cps.toList.all (fun c => decide (c ∈ figS.cps.toList)) && (decide (z = "0") || !decide (z.cps.toList.headD 0 = 48))) := fun c => by unfold isFigs; rw [decide_eq_true c, Bool.true_and]
  refine i_d (fun c1 => ?_) fun c1 => ?_
  rotate_left
  · walk_at "go"
    exact fin _ (no1 (by omega)).symm _ (Ex.refl _)
  walk_at "go"
  refine i_n (fun c2 => ?_) fun c2 => ?_
  · walk_at "go"
    exact fin _ (no1 (by omega)).symm _ (Ex.refl _)
  have c0 : 0 < z.length ∧ z.length ≤ 30 := ⟨by omega, by omega⟩
  walk_at "go"
  refine g_seqSs ?_
  walk_at "go"
  refine ⟨_, rfl, fun D hD => ?_⟩
  refine lc_mapE walk_str (fun i _ v => ∃ c, z.cps.toList[i]? = some c ∧ v = .bl (decide (c ∈ figS.cps.toList))) (by show z.length ≤ _; omega) hD (fun _ _ _ _ _ r => r) (fun _ _ => trivial) ?_ ?_
  · rintro i x H2 H3 P N hi e ⟨rfl, c, hc, rfl⟩ k
    walk_at "go"
    refine ⟨rfl, ?_⟩
    walk_at "go"
    refine g_inS rfl ?_
    exact k _ _ (Ex.refl _) ⟨c, by simpa using hc, rfl⟩
  intro H2 acc e2 ha hl hr
  walk_at "go"
  have ea : acc = (z.cps.toList.map fun c => decide (c ∈ figS.cps.toList)).map V.bl := by
    rw [List.map_map]
    refine acc_map (xs := z.cps.toList) (by rw [hl]; exact str_len z) fun j v hj => ?_
    obtain ⟨c, hc, rfl⟩ := hr j v hj
    exact ⟨c, hc, rfl⟩
  refine g_all (ea ▸ ha) ?_
  walk_at "go"
  have eal : ((z.cps.toList.map fun c => decide (c ∈ figS.cps.toList)).all id) = z.cps.toList.all (fun c => decide (c ∈ figS.cps.toList)) := by
    rw [List.all_map]
    rfl
  rw [eal]
  replace yes1 := yes1 c0
  cases hall : z.cps.toList.all (fun c => decide (c ∈ figS.cps.toList)) with
  | false =>
    walk_at "go"
    rw [hall, Bool.false_and] at yes1
    exact fin _ yes1.symm _ e2
  | true =>
    rw [hall, Bool.true_and] at yes1
    walk_at "go"
    refine i_eqS (fun c => ?_) fun c => ?_
    · walk_at "go"
      rw [decide_eq_true c, Bool.true_or] at yes1
      exact fin _ yes1.symm _ e2
    · rw [decide_eq_false c, Bool.false_or] at yes1
      have el := str_len z
      cases ez : z.cps.toList with
      | nil => rw [ez] at el; exact absurd el (by simp only [List.length_nil]; omega)
      | cons c0 r0 =>
        walk_at "go"
        refine g_ixS (c := c0) (by rw [ez]; exact (show atI (c0 :: r0) ((0 : Nat) : Int) = some c0 from atI_nat rfl)) hz2 ?_
        walk_at "go"
        rw [ez] at yes1
        refine fin _ ?_ _ e2
        rw [yes1]
        have : decide (V.str ⟨#[c0]⟩ = V.str "0") = decide (c0 = 48) := by
          refine decide_eq_decide.2 ⟨fun e => ?_, fun e => ?_⟩
          · have e' : (⟨#[c0]⟩ : Str) = "0" := by injection e
            have e2 := congrArg (fun s : Str => s.cps.toList) e'
            rw [zero_list] at e2
            exact (List.cons.inj e2).1
          · subst e
            exact congrArg V.str (str_ext zero_list.symm)
        rw [this]
        rfl
theorem vi_law_box_0 : Vis (defScope s_law_box) "_law_script" := by first | exact Or.inl (by decide +kernel) | exact Or.inr (Or.inl (by decide +kernel)) | exact Or.inr (Or.inr (by decide +kernel))
theorem vi_law_box_1 : Vis (defScope s_law_box) "_law_k" := by first | exact Or.inl (by decide +kernel) | exact Or.inr (Or.inl (by decide +kernel)) | exact Or.inr (Or.inr (by decide +kernel))
theorem vi_law_box_2 : Vis (defScope s_law_box) "_law_cell" := by first | exact Or.inl (by decide +kernel) | exact Or.inr (Or.inl (by decide +kernel)) | exact Or.inr (Or.inr (by decide +kernel))
theorem vi_law_box_3 : Vis (defScope s_law_box) "_law_seed" := by first | exact Or.inl (by decide +kernel) | exact Or.inr (Or.inl (by decide +kernel)) | exact Or.inr (Or.inr (by decide +kernel))
theorem lo_law_box_2 : Loc (defScope s_law_box) "_law_cell" := by first | exact Or.inl (by decide +kernel) | exact Or.inr (by decide +kernel)
theorem lo_law_box_3 : Loc (defScope s_law_box) "_law_seed" := by first | exact Or.inl (by decide +kernel) | exact Or.inr (by decide +kernel)
theorem ok_law_box (T : Txt K mg) : FnOk P w K mg base (L2.CX P w) 1 T.a_law_box T.d_law_box ["_law_script", "_law_k"] (spBox K) := by
  refine T.F_law_box.okX sc_law_box (fun vs H Q E h => ?_) (fun cdv A outer s H vs Q E hr h => ?_)
  · obtain ⟨p, ns, k, rfl, _⟩ := h
    rfl
  obtain ⟨p, ns, k, rfl, hS, hl, q⟩ := h
  refine ⟨_, (pss_cons (ps_set (i := 2) sc_law_box.nd rfl lo_law_box_2 (pe_op uo_add (pe_op uo_mul pe_int (uv 1 (hv := vi_law_box_1))) pe_int))
      (C8.pss_cut (ps_if (pt_cmpR uo_lt (uv 1 (hv := vi_law_box_1)) (pe_callB uk_len rfl T.z_len boot_len (pa_cons (uv 0 (hv := vi_law_box_0)) pa_nil)) (nomark _)) (pss_one (ps_set (i := 2) sc_law_box.nd rfl lo_law_box_2 (pe_ix ux_seq (uv 0 (hv := vi_law_box_0)) (uv 1 (hv := vi_law_box_1)) (fun _ _ => rfl)))) (pss_one (ps_if (pt_cmpR uo_gt (pe_callB uk_len rfl T.z_len boot_len (pa_cons (uv 0 (hv := vi_law_box_0)) pa_nil)) pe_int (nomark _)) (pss_one (ps_set (i := 2) sc_law_box.nd rfl lo_law_box_2 (pe_op uo_add (uv 2 (hv := vi_law_box_2)) (pe_op uo_mul (pe_op uo_mod (pe_ix ux_seq (uv 0 (hv := vi_law_box_0)) (pe_op uo_mod (uv 1 (hv := vi_law_box_1)) (pe_callB uk_len rfl T.z_len boot_len (pa_cons (uv 0 (hv := vi_law_box_0)) pa_nil))) (fun _ _ => rfl)) pe_int) pe_int)))) pss_nil)))
      (pss_cons (ps_set (i := 3) sc_law_box.nd rfl lo_law_box_3 (pe_op uo_add (pe_op uo_mod (pe_op uo_add (pe_op uo_mul (pe_op uo_mod (uv 2 (hv := vi_law_box_2)) pe_int) pe_int) (pe_op uo_mul pe_int (uv 1 (hv := vi_law_box_1)))) pe_int) pe_int))
      (pss_one (ps_ret (pe_lst (pa_cons (pe_ix ux_seq (pe_lst (pa_cons pe_int (pa_cons (uv 2 (hv := vi_law_box_2)) pa_nil))) (pe_callTy uk_int rfl T.z_int boot_int (pa_cons (pe_cmpR uo_ge (uv 2 (hv := vi_law_box_2)) (pe_op uo_pow pe_int pe_int) (nomark _)) pa_nil)) (fun _ _ => rfl)) (pa_cons (uv 3 (hv := vi_law_box_3)) (pa_cons pe_int pa_nil))))))))), ?_⟩
  walk_at "go"
  refine ⟨fun σ' H' => (∃ x : Int, σ' = [some (V.ref p), some (V.int k), some (V.int x), none]) ∧ H' = H, ?_, ?_⟩
  · walk_at "go"
    refine i_d (fun c => ?_) fun c => ?_
    · walk_at "go"
      have c' : k < ns.length := by
        rw [List.length_map] at c
        omega
      refine g_ixSq hS (at_ints c') ?_
      walk_at "go"
      exact ⟨⟨_, rfl⟩, rfl⟩
    · walk_at "go"
      refine i_d (fun c => ?_) fun c => ?_
      · walk_at "go"
        have hn : (0 : Int) < ((ns.map V.int).length : Nat) := c
        have e : ((k : Int).fmod ((ns.map V.int).length : Nat)) = ((k % ns.length : Nat) : Int) := by
          rw [Int.fmod_eq_emod_of_nonneg _ (by omega), List.length_map]
          rfl
        have c' : k % ns.length < ns.length := Nat.mod_lt _ (by rw [List.length_map] at hn; omega)
        refine g_ixSq hS (by rw [e]; exact at_ints c') ?_
        walk_at "go"
        exact ⟨⟨_, rfl⟩, rfl⟩
      · walk_at "go"
        exact ⟨⟨_, rfl⟩, rfl⟩
  · rintro σ' H' ⟨⟨x, rfl⟩, rfl⟩
    walk_at "go"
    refine g_new fun a ha => ?_
    have h1 := @upd_same H' a (.lst [V.int 0, V.int x])
    walk_at "go"
    have fin : ∀ v : Int, atI [V.int 0, V.int x] (b2z (decide ((10 : Int) ^ Int.toNat 18 ≤ x))) = some (.int v) → _ := fun _ _ => True.intro
    have ev : ∃ v : Int, atI [V.int 0, V.int x] (b2z (decide ((10 : Int) ^ Int.toNat 18 ≤ x))) = some (.int v) := by
      by_cases c : (10 : Int) ^ Int.toNat 18 ≤ x
      · rw [decide_eq_true c]
        exact ⟨x, rfl⟩
      · rw [decide_eq_false c]
        exact ⟨0, rfl⟩
    obtain ⟨v, ev⟩ := ev
    refine g_ixL h1 ev ?_
    walk_at "go"
    refine g_new fun b hb => ?_
    have e1 : Ex H' (upd H' a (.lst [V.int 0, V.int x])) := Ex.new ha
    exact q _ _ (e1.free hb) (e1.trans (Ex.new hb)) ⟨_, _, _, upd_same⟩
theorem vi_law_take_0 : Vis (defScope s_law_take) "_law_box_here" := by first | exact Or.inl (by decide +kernel) | exact Or.inr (Or.inl (by decide +kernel)) | exact Or.inr (Or.inr (by decide +kernel))
theorem vi_law_take_1 : Vis (defScope s_law_take) "_law_many" := by first | exact Or.inl (by decide +kernel) | exact Or.inr (Or.inl (by decide +kernel)) | exact Or.inr (Or.inr (by decide +kernel))
theorem vi_law_take_2 : Vis (defScope s_law_take) "_law_digit" := by first | exact Or.inl (by decide +kernel) | exact Or.inr (Or.inl (by decide +kernel)) | exact Or.inr (Or.inr (by decide +kernel))
theorem vi_law_take_3 : Vis (defScope s_law_take) "_law_one" := by first | exact Or.inl (by decide +kernel) | exact Or.inr (Or.inl (by decide +kernel)) | exact Or.inr (Or.inr (by decide +kernel))
theorem lo_law_take_2 : Loc (defScope s_law_take) "_law_digit" := by first | exact Or.inl (by decide +kernel) | exact Or.inr (by decide +kernel)
theorem lo_law_take_3 : Loc (defScope s_law_take) "_law_one" := by first | exact Or.inl (by decide +kernel) | exact Or.inr (by decide +kernel)
theorem ok_law_take (T : Txt K mg) : FnOk P w K mg base (L2.CX P w) 1 T.a_law_take T.d_law_take ["_law_box_here", "_law_many"] spTake := by
  refine T.F_law_take.okX sc_law_take (fun vs H Q E h => ?_) (fun cdv A outer s H vs Q E hr h => ?_)
  · obtain ⟨p, m, rfl, _⟩ := h
    rfl
  obtain ⟨p, m, rfl, ⟨a, b, c, hp⟩, hm, hm2, q⟩ := h
  have hm0 : m ≠ 0 := by omega
  refine ⟨_, (pss_cons (ps_if (pt_cmpR uo_gt (pe_ix ux_seq (uv 0 (hv := vi_law_take_0)) pe_int (fun _ _ => rfl)) pe_int (nomark _)) (pss_cons (ps_set (i := 2) sc_law_take.nd rfl lo_law_take_2 (pe_op uo_mod (pe_ix ux_seq (uv 0 (hv := vi_law_take_0)) pe_int (fun _ _ => rfl)) (uv 1 (hv := vi_law_take_1))))
      (pss_cons (ps_asg (pe_op uo_fd (pe_ix ux_seq (uv 0 (hv := vi_law_take_0)) pe_int (fun _ _ => rfl)) (uv 1 (hv := vi_law_take_1))) (pg_sub (uv 0 (hv := vi_law_take_0)) pe_int set_list))
      (pss_one (ps_ret (uv 2 (hv := vi_law_take_2)))))) pss_nil)
      (pss_cons (ps_asg (pe_op uo_add (pe_ix ux_seq (uv 0 (hv := vi_law_take_0)) pe_int (fun _ _ => rfl)) pe_int) (pg_sub (uv 0 (hv := vi_law_take_0)) pe_int set_list))
      (pss_cons (ps_set (i := 3) sc_law_take.nd rfl lo_law_take_3 (pe_op uo_mod (pe_op uo_mul (pe_op uo_add (pe_ix ux_seq (uv 0 (hv := vi_law_take_0)) pe_int (fun _ _ => rfl)) (pe_op uo_mul pe_int (pe_ix ux_seq (uv 0 (hv := vi_law_take_0)) pe_int (fun _ _ => rfl)))) pe_int) pe_int))
      (pss_cons (ps_asg (pe_op uo_add (pe_op uo_mod (pe_op uo_add (pe_op uo_mul (uv 3 (hv := vi_law_take_3)) pe_int) pe_int) pe_int) pe_int) (pg_sub (uv 0 (hv := vi_law_take_0)) pe_int set_list))
      (pss_one (ps_ret (pe_op uo_mod (pe_op uo_fd (pe_op uo_add (pe_op uo_mul (uv 3 (hv := vi_law_take_3)) pe_int) (pe_ix ux_seq (uv 0 (hv := vi_law_take_0)) pe_int (fun _ _ => rfl))) pe_int) (uv 1 (hv := vi_law_take_1))))))))), ?_⟩
  walk_at "go"
  refine i_d (fun c1 => ?_) fun c1 => ?_
  · walk_at "go"
    refine g_i ?_ ⟨hm0, hm2⟩
    walk_at "go"
    refine g_setL hp (by rfl) ?_
    walk_at "go"
    exact q _ _ (fmod_pos hm).1 (fmod_pos hm).2 (But.upd (But.refl _ _)) ⟨_, _, _, upd_same⟩
  · walk_at "go"
    refine g_setL hp (by rfl) ?_
    have h1 : upd H p (.lst ([V.int a, V.int b, V.int c].set 2 (.int (c + 1)))) p = some (.lst [.int a, .int b, .int (c + 1)]) := upd_same
    walk_at "go"
    refine g_setL h1 (by rfl) ?_
    have h2 := @upd_same (upd H p (.lst ([V.int a, V.int b, V.int c].set 2 (.int (c + 1))))) p (.lst ([V.int a, V.int b, V.int (c + 1)].set 1 (.int ((((b + 104729 * (c + 1)) * 69623).fmod 2147483647 * 48271 + 30103).fmod 2147483629 + 1))))
    walk_at "go"
    exact q _ _ (fmod_pos hm).1 (fmod_pos hm).2 ((But.refl _ _).upd.upd) ⟨_, _, _, h2⟩
theorem vi_law_alike_0 : Vis (defScope s_law_alike) "_law_found" := by first | exact Or.inl (by decide +kernel) | exact Or.inr (Or.inl (by decide +kernel)) | exact Or.inr (Or.inr (by decide +kernel))
theorem vi_law_alike_1 : Vis (defScope s_law_alike) "_law_due" := by first | exact Or.inl (by decide +kernel) | exact Or.inr (Or.inl (by decide +kernel)) | exact Or.inr (Or.inr (by decide +kernel))
theorem vi_law_alike_2 : Vis (defScope s_law_alike) "_law_left" := by first | exact Or.inl (by decide +kernel) | exact Or.inr (Or.inl (by decide +kernel)) | exact Or.inr (Or.inr (by decide +kernel))
theorem vi_law_alike_3 : Vis (defScope s_law_alike) "_law_one" := by first | exact Or.inl (by decide +kernel) | exact Or.inr (Or.inl (by decide +kernel)) | exact Or.inr (Or.inr (by decide +kernel))
theorem vi_law_alike_4 : Vis (defScope s_law_alike) "_law_other" := by first | exact Or.inl (by decide +kernel) | exact Or.inr (Or.inl (by decide +kernel)) | exact Or.inr (Or.inr (by decide +kernel))
theorem lo_law_alike_2 : Loc (defScope s_law_alike) "_law_left" := by first | exact Or.inl (by decide +kernel) | exact Or.inr (by decide +kernel)
theorem lo_law_alike_3 : Loc (defScope s_law_alike) "_law_one" := by first | exact Or.inl (by decide +kernel) | exact Or.inr (by decide +kernel)
theorem lo_law_alike_4 : Loc (defScope s_law_alike) "_law_other" := by first | exact Or.inl (by decide +kernel) | exact Or.inr (by decide +kernel)
theorem ok_law_alike (T : Txt K mg) : FnOk P w K mg base (L2.CX P w) 1 T.a_law_alike T.d_law_alike ["_law_found", "_law_due"] spAlike := by
  refine T.F_law_alike.okX sc_law_alike (fun vs H Q E h => ?_) (fun cdv A outer s H vs Q E hr h => ?_)
  · obtain ⟨_, _, _, rfl, _⟩ := h
    rfl
  obtain ⟨dd, v0, w0, rfl, rv, rw', hsz, q⟩ := h
  refine ⟨_, (pss_cons (ps_set (i := 2) sc_law_alike.nd rfl lo_law_alike_2 (pe_lst (pa_cons (pe_tup (pa_cons (uv 0 (hv := vi_law_alike_0)) (pa_cons (uv 1 (hv := vi_law_alike_1)) pa_nil))) pa_nil)))
      (pss_cons (ps_while (passes_of rfl) (pt_cmpR uo_gt (pe_callB uk_len rfl T.z_len boot_len (pa_cons (uv 2 (hv := vi_law_alike_2)) pa_nil)) pe_int (nomark _)) (pss_cons (ps_asg (pe_bm0 PySem.F.plainAttrs_list PySem.F.slot_list_pop PySem.F.type_list_pop mt_pop (uv 2 (hv := vi_law_alike_2))) (pg_tup rfl (pgs_cons (pg_name (i := 3) sc_law_alike.nd rfl lo_law_alike_3) (pgs_cons (pg_name (i := 4) sc_law_alike.nd rfl lo_law_alike_4) pgs_nil))))
      (pss_one (ps_if (ut (pe_callB uk_isT rfl T.z_isinstance boot_isinstance (pa_cons (uv 4 (hv := vi_law_alike_4)) (pa_cons (pe_tup (pa_cons (pe_bltn (v := .ty "tuple") rfl T.z_tuple boot_tuple rfl) (pa_cons (pe_bltn (v := .ty "list") rfl T.z_list boot_list rfl) pa_nil))) pa_nil)))) (pss_cons (ps_if (PW.pt (pw_or (pt_cmpR op_ne (pe_callB uk_is rfl T.z_isinstance boot_isinstance (pa_cons (uv 3 (hv := vi_law_alike_3)) (pa_cons (pe_bltn (v := .ty "tuple") rfl T.z_tuple boot_tuple rfl) pa_nil))) (pe_callB uk_is rfl T.z_isinstance boot_isinstance (pa_cons (uv 4 (hv := vi_law_alike_4)) (pa_cons (pe_bltn (v := .ty "tuple") rfl T.z_tuple boot_tuple rfl) pa_nil))) (nomark _)) (pw_or1 (pt_cmpR op_ne (pe_callB uk_is rfl T.z_isinstance boot_isinstance (pa_cons (uv 3 (hv := vi_law_alike_3)) (pa_cons (pe_bltn (v := .ty "list") rfl T.z_list boot_list rfl) pa_nil))) (pe_callB uk_is rfl T.z_isinstance boot_isinstance (pa_cons (uv 4 (hv := vi_law_alike_4)) (pa_cons (pe_bltn (v := .ty "list") rfl T.z_list boot_list rfl) pa_nil))) (nomark _))))) (pss_one (ps_ret pe_bl)) pss_nil)
      (pss_cons (ps_if (pt_cmpR op_ne (pe_callB uk_len rfl T.z_len boot_len (pa_cons (uv 3 (hv := vi_law_alike_3)) pa_nil)) (pe_callB uk_len rfl T.z_len boot_len (pa_cons (uv 4 (hv := vi_law_alike_4)) pa_nil)) (nomark _)) (pss_one (ps_ret pe_bl)) pss_nil)
      (pss_one (ps_expr (pe_bm PySem.F.plainAttrs_list PySem.F.slot_list_extend PySem.F.type_list_extend mt_extend (uv 2 (hv := vi_law_alike_2)) (pa_cons (pe_listZip rfl rfl T.z_list rfl T.z_zip (pa_cons (uv 3 (hv := vi_law_alike_3)) (pa_cons (uv 4 (hv := vi_law_alike_4)) pa_nil))) pa_nil)))))) (pss_one (ps_if (PW.pt (pw_or (ut (pe_callB uk_isT rfl T.z_isinstance boot_isinstance (pa_cons (uv 3 (hv := vi_law_alike_3)) (pa_cons (pe_tup (pa_cons (pe_bltn (v := .ty "tuple") rfl T.z_tuple boot_tuple rfl) (pa_cons (pe_bltn (v := .ty "list") rfl T.z_list boot_list rfl) pa_nil))) pa_nil)))) (pw_or1 (pt_cmpR op_ne (pe_callB uk_is rfl T.z_isinstance boot_isinstance (pa_cons (uv 3 (hv := vi_law_alike_3)) (pa_cons (pe_bltn (v := .ty "bool") rfl T.z_bool boot_bool rfl) pa_nil))) (pe_callB uk_is rfl T.z_isinstance boot_isinstance (pa_cons (uv 4 (hv := vi_law_alike_4)) (pa_cons (pe_bltn (v := .ty "bool") rfl T.z_bool boot_bool rfl) pa_nil))) (nomark _))))) (pss_one (ps_ret pe_bl)) (pss_one (ps_if (PW.pt (pw_or (pt_cmpR op_ne (pe_callB uk_is rfl T.z_isinstance boot_isinstance (pa_cons (uv 3 (hv := vi_law_alike_3)) (pa_cons (pe_bltn (v := .ty "int") rfl T.z_int boot_int rfl) pa_nil))) (pe_callB uk_is rfl T.z_isinstance boot_isinstance (pa_cons (uv 4 (hv := vi_law_alike_4)) (pa_cons (pe_bltn (v := .ty "int") rfl T.z_int boot_int rfl) pa_nil))) (nomark _)) (pw_or1 (pt_cmpR op_ne (uv 3 (hv := vi_law_alike_3)) (uv 4 (hv := vi_law_alike_4)) (nomark _))))) (pss_one (ps_ret pe_bl)) pss_nil))))))))
      (pss_one (ps_ret pe_bl)))), ?_⟩
  walk_at "go"
  refine g_new fun a ha => ?_
  walk_at "go"
  refine g_new fun l hl => ?_
  walk_at "go"
  have e0 : Ex H (upd H a (.tup [v0, w0])) := Ex.new ha
  have hl0 : H l = none := e0.free hl
  refine g_while (fun m σ H1 => ∃ o1 o2, σ = [some v0, some w0, some (.ref l), o1, o2] ∧ m ≤ 400000 ∧ Ex H H1 ∧ ∃ ts, H1 l = some (.lst ts) ∧ PrS H H1 m ts) _ ⟨none, none, rfl, by rw [← Nat.zero_add dd.size] at hsz; exact hsz, e0.trans (Ex.new hl), _, upd_same, PrS.snoc .nil ⟨a, v0, w0, rfl, Ex.new hl _ _ upd_same, rv, rw'⟩⟩ ?_
  rintro m σ H1 ⟨o1, o2, rfl, hm, e, ts, hts, hp⟩
  walk_at "go"
  refine i_d (fun c => g_wn ?_) fun c => ?_
  · cases hp with
    | nil => cases c
    | @snoc n ts d t hp r =>
      obtain ⟨a, x, y, rfl, ha, rx, ry⟩ := r
      walk_at "go"
      refine g_pop hts ?_
      have b2 : But l H1 (upd H1 l (.lst ts)) := (But.refl _ _).upd
      have h2 := b2.get hts ha (fun z => nomatch z)
      have e2 : Ex H (upd H1 l (.lst ts)) := e.at_new hl0
      have t2 : Tk H1 (upd H1 l (.lst ts)) := b2.tkl hts
      have l2 : upd H1 l (.lst ts) l = some (.lst ts) := upd_same
      refine g_tup2 h2 ?_
      walk_at "go"
      have szp := d.size_pos
      revert l2 e2 t2
      clear h2 b2
      generalize upd H1 l (.lst ts) = H2
      intro e2 t2 l2
      refine g_new fun p hp2 => ?_
      have e3 := e2.trans (Ex.new (o := .tup [.ty "tuple", .ty "list"]) hp2)
      have l3 := Ex.new (o := .tup [.ty "tuple", .ty "list"]) hp2 _ _ l2
      have t3 := t2.trans (Ex.new (o := .tup [.ty "tuple", .ty "list"]) hp2).tk
      walk_at "go"
      refine g_isTD (ry.ex e3) upd_same ?_
      revert e3 l3 t3
      generalize upd H2 p (.tup [.ty "tuple", .ty "list"]) = H3
      intro e3 l3 t3
      walk_at "go"
      refine i_b (fun k => ?_) fun k => ?_
      · obtain ⟨a1, b1, ds, xs, ys, rfl, rfl, rxs, rys, es, hb⟩ := D.open k rx ry
        have hb3 := both_ex e3 hb
        walk_at "go"
        refine g_isD (rx.ex e3) (kit_tup d) ?_
        walk_at "go"
        refine g_isD (ry.ex e3) (kit_tup d) ?_
        walk_at "go"
        refine g_isD (rx.ex e3) (kit_lst d) ?_
        walk_at "go"
        refine g_isD (ry.ex e3) (kit_lst d) ?_
        walk_at "go"
        refine g_len2a hb3 ?_
        walk_at "go"
        refine g_len2b hb3 ?_
        walk_at "go"
        refine i_neI (fun c => absurd (congrArg Int.ofNat (rxs.len2 rys)) c) fun _ => ?_
        walk_at "go"
        refine ⟨a1, b1, xs, ys, rfl, rxs.len2 rys, both_sq hb3, fun H4 z t4 e4 hz _ _ hz4 pz => ?_⟩
        have l4 := e4 _ _ l3
        have ln := sizes_len ds
        have ln2 := rxs.len
        have lp := hp.len
        walk_at "go"
        refine g_ext l4 hz4 (by rw [prz_len pz]; omega) ?_
        have b5 : But l H4 (upd H4 l (.lst (ts ++ t4.map V.ref))) := (But.refl _ _).upd
        have z := (PrS.ext rxs rys pz (hp.tk (t3.trans e4.tk))).tk (b5.tkl l4)
        walk_at "go"
        exact ⟨_, by omega, _, _, rfl, by omega, (e3.trans e4).at_new hl0, _, upd_same, z⟩
      · walk_at "go"
        refine g_new fun p hp2 => ?_
        have e4 := e3.trans (Ex.new (o := .tup [.ty "tuple", .ty "list"]) hp2)
        have l4 := Ex.new (o := .tup [.ty "tuple", .ty "list"]) hp2 _ _ l3
        have t4 := t3.trans (Ex.new (o := .tup [.ty "tuple", .ty "list"]) hp2).tk
        walk_at "go"
        refine g_isTD (rx.ex e4) upd_same ?_
        revert e4 l4 t4
        generalize upd H3 p (.tup [.ty "tuple", .ty "list"]) = H4
        intro e4 l4 t4
        walk_at "go"
        refine i_F k ?_
        walk_at "go"
        refine g_isD (rx.ex e4) (kit_bl d) ?_
        walk_at "go"
        refine g_isD (ry.ex e4) (kit_bl d) ?_
        walk_at "go"
        refine g_isD (rx.ex e4) (kit_int d) ?_
        walk_at "go"
        refine g_isD (ry.ex e4) (kit_int d) ?_
        walk_at "go"
        refine g_neD rx ry k ?_
        walk_at "go"
        exact ⟨_, by omega, _, _, rfl, by omega, e4, _, l4, hp.tk t4⟩
  · walk_at "go"
    exact q _ e
theorem vi_law_shared_0 : Vis (defScope s_law_shared) "_law_one" := by first | exact Or.inl (by decide +kernel) | exact Or.inr (Or.inl (by decide +kernel)) | exact Or.inr (Or.inr (by decide +kernel))
theorem vi_law_shared_1 : Vis (defScope s_law_shared) "_law_other" := by first | exact Or.inl (by decide +kernel) | exact Or.inr (Or.inl (by decide +kernel)) | exact Or.inr (Or.inr (by decide +kernel))
theorem ok_law_shared (T : Txt K mg) : FnOk P w K mg base (L2.CX P w) 1 T.a_law_shared T.d_law_shared ["_law_one", "_law_other"] spGcd := by
  refine T.F_law_shared.okX sc_law_shared (fun vs H Q E h => ?_) (fun cdv A outer s H vs Q E hr h => ?_)
  · obtain ⟨a, b, rfl, _⟩ := h
    rfl
  obtain ⟨a, b, rfl, q⟩ := h
  refine ⟨_, (pss_cons (ps_while (passes_of rfl) (pt_cmpR op_ne (uv 1 (hv := vi_law_shared_1)) pe_int (nomark _)) (pss_one (ps_par (i := 0) (j := 1) rfl sc_law_shared.nd rfl rfl (by decide) rfl rfl (pa_cons (uv 1 (hv := vi_law_shared_1)) (pa_cons (pe_op uo_mod (uv 0 (hv := vi_law_shared_0)) (uv 1 (hv := vi_law_shared_1))) pa_nil)) rfl)))
      (pss_one (ps_ret (pe_callB uk_abs rfl T.z_abs boot_abs (pa_cons (uv 0 (hv := vi_law_shared_0)) pa_nil))))), ?_⟩
  refine g_seq (g_while (fun m σ H1 => ∃ x y : Int, σ = [some (.int x), some (.int y)] ∧ H1 = H ∧ Int.gcd x y = Int.gcd a b ∧ m = y.natAbs) _ ⟨a, b, rfl, rfl, rfl, rfl⟩ ?_)
  rintro m σ H1 ⟨x, y, rfl, rfl, hg, rfl⟩
  walk_at "go"
  refine i_neI (fun c => g_wn ?_) fun c => ?_
  · walk_at "go"
    exact ⟨_, fmod_less c, y, x.fmod y, rfl, rfl, (gcd_fmod x y).trans hg, rfl⟩
  · walk_at "go"
    subst c
    rw [Int.gcd_zero_right] at hg
    rw [hg]
    exact q
theorem vi_law_signs_0 : Vis (defScope s_law_signs) "_law_found" := by first | exact Or.inl (by decide +kernel) | exact Or.inr (Or.inl (by decide +kernel)) | exact Or.inr (Or.inr (by decide +kernel))
theorem lo_law_signs_0 : Loc (defScope s_law_signs) "_law_found" := by first | exact Or.inl (by decide +kernel) | exact Or.inr (by decide +kernel)
theorem ok_law_signs (T : Txt K mg) : FnOk P w K mg base (L2.CX P w) 1 T.a_law_signs T.d_law_signs [] spSigns02 := by
  refine T.F_law_signs.okX sc_law_signs (fun vs H Q E h => ?_) (fun cdv A outer s H vs Q E hr h => ?_)
  · obtain ⟨rfl, _⟩ := h
    rfl
  obtain ⟨rfl, q⟩ := h
  refine ⟨_, (pss_cons (ps_set (i := 0) sc_law_signs.nd rfl lo_law_signs_0 (pe_op uo_add (pe_op uo_add pe_str pe_str) pe_str))
      (pss_one (ps_ret (pe_op uo_add (pe_op uo_add (pe_op uo_add (pe_op uo_add (pe_op uo_add (uv 0 (hv := vi_law_signs_0)) pe_str) pe_str) pe_str) pe_str) pe_str)))), ?_⟩
  have e : signs02 = ((((((" !" : Str) ++ "\"") ++ "#$&'()*+,-./0123456789:;<=>?\x40ABCDEFGHIJKLMNOPQRSTUVWXYZ[") ++ "\\") ++ "]^_") ++ "`") ++ "abcdefghijklmnopqrstuvwxyz{|}~" ++ "\n" := by decide +kernel
  walk_at "go"
  refine g_addS (by decide) ?_
  walk_at "go"
  refine g_addS (by decide +kernel) ?_
  walk_at "go"
  refine g_addS (by decide +kernel) ?_
  walk_at "go"
  refine g_addS (by decide +kernel) ?_
  walk_at "go"
  refine g_addS (by decide +kernel) ?_
  walk_at "go"
  refine g_addS (by decide +kernel) ?_
  walk_at "go"
  refine g_addS (by decide +kernel) ?_
  rw [← e]
  exact q
theorem vi_law_figures_0 : Vis (defScope s_law_figures) "_law_text" := by first | exact Or.inl (by decide +kernel) | exact Or.inr (Or.inl (by decide +kernel)) | exact Or.inr (Or.inr (by decide +kernel))
theorem ok_law_figures (T : Txt K mg) : FnOk P w K mg base (L2.CX P w) 1 T.a_law_figures T.d_law_figures ["_law_text"] spFiguresL := by
  refine T.F_law_figures.okX sc_law_figures (fun vs H Q E h => ?_) (fun cdv A outer s H vs Q E hr h => ?_)
  · obtain ⟨_, rfl, _⟩ := h
    rfl
  obtain ⟨z, rfl, hz, q⟩ := h
  refine ⟨_, (pss_cons (ps_if (PW.pt (pw_or (pt_not (pt_chain uo_lt uo_lt pe_int (pe_callB uk_len rfl T.z_len boot_len (pa_cons (uv 0 (hv := vi_law_figures_0)) pa_nil)) pe_int)) (pw_or1 (pt_not (ut (pe_callB (cr_all rfl) rfl T.z_all boot_all (pa_cons (pe_lc (own := [("_law_sign", 1)]) (g := gName 1) rfl sc_law_figures.nd (ui_seq (uv 0 (hv := vi_law_figures_0))) (blkOk_by (own := [("_law_sign", 1)]) (N := N_law_figures) (sc := defScope s_law_figures) (by decide +kernel)) (fun _ _ _ _ _ => (pg_name (i := 1) sc_law_figures.nd rfl (by first | exact Or.inl rfl | exact Or.inr rfl))) (fun _ _ _ _ _ => pts_nil) (fun _ _ _ _ _ => (pe_cmpR (show OpR _ (compareOp .In) (uIn K false) from uo_in) (uv 1) pe_str rfl))) pa_nil))))))) (pss_one (ps_ret pe_non)) pss_nil)
      (pss_cons (ps_if (PW.pt (pw_and (pt_cmpR op_eq (pe_ix ux_seq (uv 0 (hv := vi_law_figures_0)) pe_int (fun _ _ => rfl)) pe_str (nomark _)) (pw_and1 (pt_cmpR uo_gt (pe_callB uk_len rfl T.z_len boot_len (pa_cons (uv 0 (hv := vi_law_figures_0)) pa_nil)) pe_int (nomark _))))) (pss_one (ps_ret pe_non)) pss_nil)
      (pss_one (ps_ret (pe_callTy uk_intS rfl T.z_int boot_int (pa_cons (uv 0 (hv := vi_law_figures_0)) pa_nil)))))), ?_⟩
  have hz2 : z.length ≤ 1000000 := Nat.le_trans hz (by decide)
  have fin0 : isFigs z = false → ∀ H', Ex H H' → Q .non H' := fun e H' x => by have := q H' x; rw [e] at this; exact this
  have fin1 : isFigs z = true → ∀ H', Ex H H' → Q (.int (intT z)) H' := fun e H' x => by have := q H' x; rw [e] at this; exact this
  walk_at "go"
  refine g_lenStr hz2 ?_
  walk_at "go"
  have no1 : ¬ (0 < z.length ∧ z.length ≤ 30) → isFigs z = false := fun c => by unfold isFigs; rw [decide_eq_false c, Bool.false_and]
  have yes1 : (0 < z.length ∧ z.length ≤ 30) → isFigs z = (z.cps.toList.all (fun c => decide (c ∈ figS.cps.toList)) && (decide (z = "0") || !decide (z.cps.toList.headD 0 = 48))) := fun c => by unfold isFigs; rw [decide_eq_true c, Bool.true_and]
  refine i_d (fun c1 => ?_) fun c1 => ?_
  rotate_left
  · walk_at "go"
    exact fin0 (no1 (by omega)) _ (Ex.refl _)
  walk_at "go"
  refine i_n (fun c2 => ?_) fun c2 => ?_
  · walk_at "go"
    exact fin0 (no1 (by omega)) _ (Ex.refl _)
  have c0 : 0 < z.length ∧ z.length ≤ 30 := ⟨by omega, by omega⟩
  walk_at "go"
  refine g_seqSs ?_
  walk_at "go"
  refine ⟨_, rfl, fun D hD => ?_⟩
  refine lc_mapE walk_str (fun i _ v => ∃ c, z.cps.toList[i]? = some c ∧ v = .bl (decide (c ∈ figS.cps.toList))) (by show z.length ≤ _; omega) hD (fun _ _ _ _ _ r => r) (fun _ _ => trivial) ?_ ?_
  · rintro i x H2 H3 P N hi e ⟨rfl, c, hc, rfl⟩ k
    walk_at "go"
    refine ⟨rfl, ?_⟩
    walk_at "go"
    refine g_inS rfl ?_
    exact k _ _ (Ex.refl _) ⟨c, by simpa using hc, rfl⟩
  intro H2 acc e2 ha hl hr
  walk_at "go"
  have ea : acc = (z.cps.toList.map fun c => decide (c ∈ figS.cps.toList)).map V.bl := by
    rw [List.map_map]
    refine acc_map (xs := z.cps.toList) (by rw [hl]; exact str_len z) fun j v hj => ?_
    obtain ⟨c, hc, rfl⟩ := hr j v hj
    exact ⟨c, hc, rfl⟩
  refine g_all (ea ▸ ha) ?_
  walk_at "go"
  have eal : ((z.cps.toList.map fun c => decide (c ∈ figS.cps.toList)).all id) = z.cps.toList.all (fun c => decide (c ∈ figS.cps.toList)) := by
    rw [List.all_map]
    rfl
  rw [eal]
  replace yes1 := yes1 c0
  cases hall : z.cps.toList.all (fun c => decide (c ∈ figS.cps.toList)) with
  | false =>
    walk_at "go"
    rw [hall, Bool.false_and] at yes1
    exact fin0 yes1 _ e2
  | true =>
    rw [hall, Bool.true_and] at yes1
    have el := str_len z
    cases ez : z.cps.toList with
    | nil => rw [ez] at el; exact absurd el (by simp only [List.length_nil]; omega)
    | cons c0 r0 =>
    walk_at "go"
    refine g_ixS (c := c0) (by rw [ez]; exact (show atI (c0 :: r0) ((0 : Nat) : Int) = some c0 from atI_nat rfl)) hz2 ?_
    walk_at "go"
    rw [ez] at yes1 el
    replace yes1 : isFigs z = (decide (z = "0") || !decide (c0 = 48)) := yes1
    have last : isFigs z = true → ∀ H', Ex H H' → (uIntS [.str z] H' fun y H2 => Q y H2) := fun hf H' x => by
      obtain ⟨_, _, _, i1⟩ := canon hf
      exact g_intS i1 (by omega) (fin1 hf _ x)
    have e48 : decide (V.str ⟨#[c0]⟩ = V.str "0") = decide (c0 = 48) := by
      refine decide_eq_decide.2 ⟨fun e => ?_, fun e => ?_⟩
      · have e' : (⟨#[c0]⟩ : Str) = "0" := by injection e
        have e2 := congrArg (fun s : Str => s.cps.toList) e'
        rw [zero_list] at e2
        exact (List.cons.inj e2).1
      · subst e
        exact congrArg V.str (str_ext zero_list.symm)
    rw [e48]
    by_cases c : c0 = 48
    · rw [decide_eq_true c] at yes1 ⊢
      rw [if_pos rfl]
      walk_at "go"
      refine g_lenStr hz2 ?_
      walk_at "go"
      refine i_d (fun c3 => ?_) fun c3 => ?_
      · walk_at "go"
        refine fin0 ?_ _ e2
        rw [yes1, decide_eq_false fun y => ?_]
        · rfl
        · rw [y] at c3
          exact absurd c3 (by decide)
      · have z0 : z = "0" := str_ext (by
          rw [ez, zero_list, c]
          cases r0 with
          | nil => rfl
          | cons a b => rw [List.length_cons, List.length_cons] at el; omega)
        walk_at "go"
        exact last (by rw [yes1, decide_eq_true z0]; rfl) _ e2
    · rw [decide_eq_false c] at yes1 ⊢
      rw [if_neg Bool.false_ne_true]
      walk_at "go"
      exact last (by rw [yes1]; exact Bool.or_true _) _ e2
theorem vi_law_lowest_0 : Vis (defScope s_law_lowest) "_law_upper" := by first | exact Or.inl (by decide +kernel) | exact Or.inr (Or.inl (by decide +kernel)) | exact Or.inr (Or.inr (by decide +kernel))
theorem vi_law_lowest_1 : Vis (defScope s_law_lowest) "_law_lower" := by first | exact Or.inl (by decide +kernel) | exact Or.inr (Or.inl (by decide +kernel)) | exact Or.inr (Or.inr (by decide +kernel))
theorem vi_law_lowest_2 : Vis (defScope s_law_lowest) "_law_part" := by first | exact Or.inl (by decide +kernel) | exact Or.inr (Or.inl (by decide +kernel)) | exact Or.inr (Or.inr (by decide +kernel))
theorem lo_law_lowest_2 : Loc (defScope s_law_lowest) "_law_part" := by first | exact Or.inl (by decide +kernel) | exact Or.inr (by decide +kernel)
theorem ok_law_lowest (T : Txt K mg) : FnOk P w K mg base (L2.CX P w) 2 T.a_law_lowest T.d_law_lowest ["_law_upper", "_law_lower"] spLow := by
  refine T.F_law_lowest.okX sc_law_lowest (fun vs H Q E h => ?_) (fun cdv A outer s H vs Q E hr h => ?_)
  · obtain ⟨_, _, rfl, _⟩ := h
    rfl
  obtain ⟨u, l, rfl, bu, bl, hl, q⟩ := h
  refine ⟨_, (pss_cons (ps_set (i := 2) sc_law_lowest.nd rfl lo_law_lowest_2 (pe_callB (uk_max2 rfl) rfl T.z_max boot_max (pa_cons pe_int (pa_cons (pe_callD (ok_law_shared T) (hr.mono (by decide)) rfl T.m_law_shared T.F_law_shared.kp T.b_law_shared .nil (fun σ => passAt (takes_of rfl rfl rfl rfl) σ) (pa_cons (uv 0 (hv := vi_law_lowest_0)) (pa_cons (uv 1 (hv := vi_law_lowest_1)) pa_nil))) pa_nil))))
      (pss_one (ps_ret (pe_tup (pa_cons (pe_op uo_fd (uv 0 (hv := vi_law_lowest_0)) (uv 2 (hv := vi_law_lowest_2))) (pa_cons (pe_op uo_fd (uv 1 (hv := vi_law_lowest_1)) (uv 2 (hv := vi_law_lowest_2))) pa_nil)))))), ?_⟩
  walk_at "go"
  refine ⟨_, _, rfl, ?_⟩
  walk_at "go"
  have e0 : l ≠ 0 := by omega
  rw [max_fpt hl]
  have cu : CFd u (fpt u l) := (fpt_bits e0 bl).fd (fpt_ne e0)
  have cl : CFd l (fpt u l) := (fpt_bits e0 bl).fd (fpt_ne e0)
  refine g_i ?_ cu
  walk_at "go"
  exact g_new q
theorem vi_law_in_0 : Vis (defScope s_law_in) "_law_text" := by first | exact Or.inl (by decide +kernel) | exact Or.inr (Or.inl (by decide +kernel)) | exact Or.inr (Or.inr (by decide +kernel))
theorem vi_law_in_1 : Vis (defScope s_law_in) "_law_sign" := by first | exact Or.inl (by decide +kernel) | exact Or.inr (Or.inl (by decide +kernel)) | exact Or.inr (Or.inr (by decide +kernel))
theorem vi_law_in_2 : Vis (defScope s_law_in) "_law_upper" := by first | exact Or.inl (by decide +kernel) | exact Or.inr (Or.inl (by decide +kernel)) | exact Or.inr (Or.inr (by decide +kernel))
theorem vi_law_in_3 : Vis (defScope s_law_in) "_law_stroke" := by first | exact Or.inl (by decide +kernel) | exact Or.inr (Or.inl (by decide +kernel)) | exact Or.inr (Or.inr (by decide +kernel))
theorem vi_law_in_4 : Vis (defScope s_law_in) "_law_lower" := by first | exact Or.inl (by decide +kernel) | exact Or.inr (Or.inl (by decide +kernel)) | exact Or.inr (Or.inr (by decide +kernel))
theorem vi_law_in_5 : Vis (defScope s_law_in) "_law_above" := by first | exact Or.inl (by decide +kernel) | exact Or.inr (Or.inl (by decide +kernel)) | exact Or.inr (Or.inr (by decide +kernel))
theorem vi_law_in_6 : Vis (defScope s_law_in) "_law_below" := by first | exact Or.inl (by decide +kernel) | exact Or.inr (Or.inl (by decide +kernel)) | exact Or.inr (Or.inr (by decide +kernel))
theorem lo_law_in_1 : Loc (defScope s_law_in) "_law_sign" := by first | exact Or.inl (by decide +kernel) | exact Or.inr (by decide +kernel)
theorem lo_law_in_2 : Loc (defScope s_law_in) "_law_upper" := by first | exact Or.inl (by decide +kernel) | exact Or.inr (by decide +kernel)
theorem lo_law_in_3 : Loc (defScope s_law_in) "_law_stroke" := by first | exact Or.inl (by decide +kernel) | exact Or.inr (by decide +kernel)
theorem lo_law_in_4 : Loc (defScope s_law_in) "_law_lower" := by first | exact Or.inl (by decide +kernel) | exact Or.inr (by decide +kernel)
theorem lo_law_in_6 : Loc (defScope s_law_in) "_law_below" := by first | exact Or.inl (by decide +kernel) | exact Or.inr (by decide +kernel)
theorem ok_law_in (T : Txt K mg) : FnOk P w K mg base (L2.CX P w) 2 T.a_law_in T.d_law_in ["_law_text"] spLawIn := by
  refine T.F_law_in.okX sc_law_in (fun vs H Q E h => ?_) (fun cdv A outer s H vs Q E hr h => ?_)
  · obtain ⟨_, rfl, _⟩ := h
    rfl
  obtain ⟨z, rfl, lz, q0, q1⟩ := h
  refine ⟨_, (pss_cons (ps_set (i := 1) sc_law_in.nd rfl lo_law_in_1 (pe_op uo_sub pe_int (pe_op uo_mul pe_int (pe_callTy uk_int rfl T.z_int boot_int (pa_cons (pe_cmpR op_eq (pe_slice (show SlR _ (uSl K) from us_sl) (uv 0 (hv := vi_law_in_0)) po_none (po_some pe_int)) pe_str (nomark _)) pa_nil)))))
      (pss_cons (ps_asg (pe_partition (pe_slice (show SlR _ (uSl K) from us_sl) (uv 0 (hv := vi_law_in_0)) (po_some (pe_callTy uk_int rfl T.z_int boot_int (pa_cons (pe_cmpR uo_lt (uv 1 (hv := vi_law_in_1)) pe_int (nomark _)) pa_nil))) po_none) pe_str) (show PG _ _ (gTup K 3 _) from (pg_tup rfl (pgs_cons (pg_name (i := 2) sc_law_in.nd rfl lo_law_in_2) (pgs_cons (pg_name (i := 3) sc_law_in.nd rfl lo_law_in_3) (pgs_cons (pg_name (i := 4) sc_law_in.nd rfl lo_law_in_4) pgs_nil))))))
      (pss_cons (ps_par (i := 5) (j := 6) rfl sc_law_in.nd rfl rfl (by decide) rfl rfl (pa_cons (pe_callD (ok_law_figures T) (hr.mono (by decide)) rfl T.m_law_figures T.F_law_figures.kp T.b_law_figures .nil (fun σ => passAt (takes_of rfl rfl rfl rfl) σ) (pa_cons (uv 2 (hv := vi_law_in_2)) pa_nil)) (pa_cons pe_int pa_nil)) rfl)
      (C8.pss_cut (ps_if (pt_cmpR op_eq (uv 3 (hv := vi_law_in_3)) pe_str (nomark _)) (pss_one (ps_set (i := 6) sc_law_in.nd rfl lo_law_in_6 (pe_callD (ok_law_figures T) (hr.mono (by decide)) rfl T.m_law_figures T.F_law_figures.kp T.b_law_figures .nil (fun σ => passAt (takes_of rfl rfl rfl rfl) σ) (pa_cons (uv 4 (hv := vi_law_in_4)) pa_nil)))) pss_nil)
      (pss_cons (ps_if (PW.pt (pw_or (pt_cmpR uo_isN (uv 5 (hv := vi_law_in_5)) pe_non (nomark _)) (pw_or (pt_cmpR uo_isN (uv 6 (hv := vi_law_in_6)) pe_non (nomark _)) (pw_or (pt_cmpR op_eq (uv 6 (hv := vi_law_in_6)) pe_int (nomark _)) (pw_or1 (PW.pt (pw_and (pt_cmpR uo_lt (uv 1 (hv := vi_law_in_1)) pe_int (nomark _)) (pw_and1 (pt_cmpR op_eq (uv 5 (hv := vi_law_in_5)) pe_int (nomark _)))))))))) (pss_one (ps_ret pe_non)) pss_nil)
      (pss_cons (ps_if (PW.pt (pw_and (pt_cmpR op_eq (uv 3 (hv := vi_law_in_3)) pe_str (nomark _)) (pw_and1 (PW.pt (pw_or (pt_cmpR op_eq (uv 6 (hv := vi_law_in_6)) pe_int (nomark _)) (pw_or1 (pt_cmpR uo_gt (pe_callD (ok_law_shared T) (hr.mono (by decide)) rfl T.m_law_shared T.F_law_shared.kp T.b_law_shared .nil (fun σ => passAt (takes_of rfl rfl rfl rfl) σ) (pa_cons (uv 5 (hv := vi_law_in_5)) (pa_cons (uv 6 (hv := vi_law_in_6)) pa_nil))) pe_int (nomark _)))))))) (pss_one (ps_ret pe_non)) pss_nil)
      (pss_one (ps_ret (pe_tup (pa_cons (pe_op uo_mul (uv 1 (hv := vi_law_in_1)) (uv 5 (hv := vi_law_in_5))) (pa_cons (uv 6 (hv := vi_law_in_6)) pa_nil))))))))))), ?_⟩
  have lz2 : z.length ≤ 1000000 := by omega
  walk_at "go"
  refine g_slS lz2 ?_
  walk_at "go"
  have es : decide (V.str (cutS z none (some 1)) = V.str "-") = hasSign z := by
    have e1 : ("-" : Str).cps.toList = [45] := by decide +kernel
    have e2 : (cutS z none (some 1)).cps.toList = z.cps.toList.take 1 := by
      have := cut_list z none (some ((1 : Nat) : Int))
      rw [HT.sIx_nat, HT.sIx_none] at this
      refine this.trans ?_
      rw [List.drop_zero, Nat.sub_zero]
      cases c : z.cps.toList with
      | nil => rw [List.take_nil, List.take_nil]
      | cons d r =>
        have : min 1 z.length = 1 := by rw [str_len, c, List.length_cons]; omega
        rw [this]
    cases c : z.cps.toList with
    | nil =>
      rw [hasSign_nil c]
      refine decide_eq_false fun y => ?_
      have := congrArg (fun s : Str => s.cps.toList) (V.str.inj y)
      rw [e2, c, e1] at this
      cases this
    | cons d r =>
      rw [hasSign_cons c]
      refine decide_eq_decide.2 ⟨fun y => ?_, fun y => ?_⟩
      · have := congrArg (fun s : Str => s.cps.toList) (V.str.inj y)
        rw [e2, c, e1] at this
        exact (List.cons.inj this).1
      · refine congrArg V.str (str_ext ?_)
        rw [e2, c, e1, y]
        rfl
  rw [es]
  obtain ⟨sb, esb⟩ : ∃ sb, sb = hasSign z := ⟨_, rfl⟩
  rw [← esb]
  walk_at "go"
  refine g_m1 ?_
  walk_at "go"
  have eb : b2z (decide ((1 : Int) - 2 * b2z sb < 0)) = b2z sb := by cases sb <;> rfl
  rw [eb]
  refine g_slS lz2 ?_
  have ebz : cutS z (some (b2z sb)) none = bareS z := by rw [esb]; rfl
  rw [ebz]
  have lb : (bareS z).length ≤ z.length := cutS_len z (some (b2z (hasSign z))) none
  walk_at "go"
  refine ⟨bareS z, "/", rfl, rfl, by decide, Nat.le_trans (by omega : (bareS z).length ≤ 1000000) (by decide), fun p hp => ?_⟩
  have pl := part_ok (z := bareS z) (y := "/") slash_list
  obtain ⟨up, st, lo, hpt⟩ : ∃ up st lo, Txt.partition (bareS z) "/" = (up, st, lo) := ⟨_, _, _, rfl⟩
  rw [hpt] at pl ⊢
  obtain ⟨pl1, pl2, _, _⟩ := pl
  replace pl1 : up.length ≤ (bareS z).length := pl1
  replace pl2 : lo.length ≤ (bareS z).length := pl2
  have F : ∀ f, readFx z = some f → sb = decide (f.1 < 0) ∧ LowF f ∧ f.1.natAbs < 10 ^ 30 ∧ f.2.natAbs < 10 ^ 30 ∧ isFigs up = true ∧ intT up = ((f.1.natAbs : Nat) : Int) ∧ ((f.2 = 1 ∧ st ≠ "/") ∨ (f.2 ≠ 1 ∧ st = "/" ∧ isFigs lo = true ∧ intT lo = f.2)) := fun f hf => by
    obtain ⟨hs, lw, k1, k2, es2, hpp⟩ := shown_parts hf
    have n1 := isFigs_num k1
    have i1 := intT_num (i := ((f.1.natAbs : Nat) : Int)) (k := 30) (by rw [Int.natAbs_natCast]; exact k1) (by decide) (by decide)
    rw [hpt] at hpp
    rcases hpp with ⟨c, e⟩ | ⟨c, e⟩
    · cases e
      exact ⟨esb.trans hs, lw, k1, k2, n1, i1, .inl ⟨c, empty_ne⟩⟩
    · cases e
      have e2 : f.2 = ((f.2.natAbs : Nat) : Int) := by have := lw.1; omega
      exact ⟨esb.trans hs, lw, k1, k2, n1, i1, .inr ⟨c, rfl, by rw [e2]; exact isFigs_num k2, intT_num k2 (by decide) (by decide)⟩⟩
  have no : (∀ f, readFx z = some f → False) → readFx z = none := fun k => by
    cases e : readFx z with
    | none => rfl
    | some f => exact (k f e).elim
  have e1 := Ex.new (o := .tup [.str up, .str st, .str lo]) hp
  refine g_tup3 upd_same ?_
  walk_at "go"
  refine ⟨up, rfl, by omega, fun H2 e2 => ?_⟩
  walk_at "go"
  have e02 := e1.trans e2
  clear e1 e2 hp
  refine ⟨fun σ' H' => Ex H H' ∧ ∃ B, σ' = [some (.str z), some (.int (1 - 2 * b2z sb)), some (.str up), some (.str st), some (.str lo), some (if isFigs up = true then .int (intT up) else .non), some B] ∧ ((st ≠ "/" ∧ B = .int 1) ∨ (st = "/" ∧ B = if isFigs lo = true then .int (intT lo) else .non)), ?_, ?_⟩
  · walk_at "go"
    refine i_eqS (fun c => ?_) fun c => ?_
    · walk_at "go"
      refine ⟨lo, rfl, by omega, fun H3 e3 => ?_⟩
      exact ⟨e02.trans e3, _, rfl, .inr ⟨c, rfl⟩⟩
    · exact ⟨e02, _, rfl, .inl ⟨c, rfl⟩⟩
  rintro σ' H3 ⟨e3, B, rfl, hB⟩
  cases hu : isFigs up with
  | false =>
    rw [if_neg Bool.false_ne_true]
    walk_at "go"
    refine q0 (no fun f hf => ?_) _ e3
    obtain ⟨_, _, _, _, k, _⟩ := F f hf
    rw [hu] at k
    cases k
  | true =>
  rw [if_pos rfl]
  walk_at "go"
  rcases hB with ⟨ns, rfl⟩ | ⟨rfl, hB⟩
  · walk_at "go"
    refine i_eqI (fun c => absurd c (by decide)) fun _ => ?_
    walk_at "go"
    have good : (sb = true → intT up ≠ 0) → readFx z = some (if sb = true then 0 - intT up else intT up, 1) := fun h0 => by
      refine make_parts hpt hu _ (by rw [esb]) (by rw [← esb]; exact h0) 1 (.inl ⟨ns, rfl⟩)
    have fin : (sb = true → intT up ≠ 0) → ∀ p H', Ex H H' → H' p = some (.tup [.int ((1 - 2 * b2z sb) * intT up), .int 1]) → Q (.ref p) H' := fun h0 p H' e hp => by
      refine q1 _ (good h0) p H' e ?_
      rw [hp]
      cases sb
      · show some (HO.tup [.int ((1 - 2 * 0) * intT up), .int 1]) = some (.tup [.int (intT up), .int 1])
        congr 5
        omega
      · show some (HO.tup [.int ((1 - 2 * 1) * intT up), .int 1]) = some (.tup [.int (0 - intT up), .int 1])
        congr 5
        omega
    have bad : sb = true → intT up = 0 → readFx z = none := fun h1 h2 => no fun f hf => by
      obtain ⟨k1, _, _, _, _, k2, _⟩ := F f hf
      rw [h1] at k1
      have := of_decide_eq_true k1.symm
      omega
    rw [show decide ((1 : Int) - 2 * b2z sb < 0) = sb from by cases sb <;> rfl]
    cases sb with
    | true =>
      walk_at "go"
      refine i_eqI (fun c => ?_) fun c => ?_
      · walk_at "go"
        exact q0 (bad rfl c) _ e3
      walk_at "go"
      refine i_eqS (fun c => absurd c ns) fun _ => ?_
      walk_at "go"
      refine g_new fun p hp => ?_
      exact fin (fun _ => c) p _ (e3.trans (Ex.new hp)) upd_same
    | false =>
      walk_at "go"
      refine i_eqS (fun c => absurd c ns) fun _ => ?_
      walk_at "go"
      refine g_new fun p hp => ?_
      exact fin (fun y => nomatch y) p _ (e3.trans (Ex.new hp)) upd_same
  · cases hl : isFigs lo with
    | false =>
      rw [hl, if_neg Bool.false_ne_true] at hB
      subst hB
      walk_at "go"
      refine q0 (no fun f hf => ?_) _ e3
      obtain ⟨_, _, _, _, _, _, k⟩ := F f hf
      rcases k with ⟨_, k⟩ | ⟨_, _, k, _⟩
      · exact k rfl
      · rw [hl] at k
        cases k
    | true =>
      rw [hl, if_pos rfl] at hB
      subst hB
      walk_at "go"
      have good : intT lo ≠ 0 → (sb = true → intT up ≠ 0) → intT lo ≠ 1 → Int.gcd (intT up) (intT lo) ≤ 1 → readFx z = some (if sb = true then 0 - intT up else intT up, intT lo) := fun n0 h0 n1 g => by
        refine make_parts hpt hu _ (by rw [esb]) (by rw [← esb]; exact h0) (intT lo) (.inr ⟨rfl, hl, rfl, n0, n1, g⟩)
      have fin : intT lo ≠ 0 → (sb = true → intT up ≠ 0) → intT lo ≠ 1 → Int.gcd (intT up) (intT lo) ≤ 1 → ∀ p H', Ex H H' → H' p = some (.tup [.int ((1 - 2 * b2z sb) * intT up), .int (intT lo)]) → Q (.ref p) H' := fun n0 h0 n1 g p H' e hp => by
        refine q1 _ (good n0 h0 n1 g) p H' e ?_
        rw [hp]
        cases sb
        · show some (HO.tup [.int ((1 - 2 * 0) * intT up), .int (intT lo)]) = some (.tup [.int (intT up), .int (intT lo)])
          congr 5
          omega
        · show some (HO.tup [.int ((1 - 2 * 1) * intT up), .int (intT lo)]) = some (.tup [.int (0 - intT up), .int (intT lo)])
          congr 5
          omega
      have bad : (intT lo = 0 ∨ (sb = true ∧ intT up = 0) ∨ intT lo = 1 ∨ 1 < Int.gcd (intT up) (intT lo)) → readFx z = none := fun h => no fun f hf => by
        obtain ⟨k1, lw, _, _, _, k2, k3⟩ := F f hf
        rcases k3 with ⟨_, k3⟩ | ⟨k3, _, _, k4⟩
        · exact k3 rfl
        have lp := lw.1
        have lg := lw.2
        rw [k4, k2] at h
        rcases h with h | ⟨h, h2⟩ | h | h
        · omega
        · rw [h] at k1
          have := of_decide_eq_true k1.symm
          omega
        · exact k3 h
        · have : Int.gcd ((f.1.natAbs : Nat) : Int) f.2 = Int.gcd f.1 f.2 := by
            show Nat.gcd _ _ = Nat.gcd _ _
            rw [Int.natAbs_natCast]
          omega
      refine i_eqI (fun c => ?_) fun c0 => ?_
      · walk_at "go"
        exact q0 (bad (.inl c)) _ e3
      walk_at "go"
      rw [show decide ((1 : Int) - 2 * b2z sb < 0) = sb from by cases sb <;> rfl]
      have tail : (sb = true → intT up ≠ 0) → (intT lo = 1 → readFx z = none) ∧ (1 < Int.gcd (intT up) (intT lo) → readFx z = none) := fun _ => ⟨fun h => bad (.inr (.inr (.inl h))), fun h => bad (.inr (.inr (.inr h)))⟩
      cases sb with
      | true =>
        walk_at "go"
        refine i_eqI (fun c => ?_) fun c => ?_
        · walk_at "go"
          exact q0 (bad (.inr (.inl ⟨rfl, c⟩))) _ e3
        walk_at "go"
        refine i_eqS (fun _ => ?_) fun c => absurd rfl c
        walk_at "go"
        refine i_eqI (fun c1 => ?_) fun c1 => ?_
        · walk_at "go"
          exact q0 (bad (.inr (.inr (.inl c1)))) _ e3
        walk_at "go"
        refine ⟨_, _, rfl, ?_⟩
        walk_at "go"
        refine i_d (fun c2 => ?_) fun c2 => ?_
        · walk_at "go"
          exact q0 (bad (.inr (.inr (.inr (by omega))))) _ e3
        walk_at "go"
        refine g_new fun p hp => ?_
        exact fin c0 (fun _ => c) c1 (by omega) p _ (e3.trans (Ex.new hp)) upd_same
      | false =>
        walk_at "go"
        refine i_eqS (fun _ => ?_) fun c => absurd rfl c
        walk_at "go"
        refine i_eqI (fun c1 => ?_) fun c1 => ?_
        · walk_at "go"
          exact q0 (bad (.inr (.inr (.inl c1)))) _ e3
        walk_at "go"
        refine ⟨_, _, rfl, ?_⟩
        walk_at "go"
        refine i_d (fun c2 => ?_) fun c2 => ?_
        · walk_at "go"
          exact q0 (bad (.inr (.inr (.inr (by omega))))) _ e3
        walk_at "go"
        refine g_new fun p hp => ?_
        exact fin c0 (fun y => nomatch y) c1 (by omega) p _ (e3.trans (Ex.new hp)) upd_same
theorem vi_law_spoilt_0 : Vis (defScope s_law_spoilt) "_law_box_here" := by first | exact Or.inl (by decide +kernel) | exact Or.inr (Or.inl (by decide +kernel)) | exact Or.inr (Or.inr (by decide +kernel))
theorem vi_law_spoilt_1 : Vis (defScope s_law_spoilt) "_law_text" := by first | exact Or.inl (by decide +kernel) | exact Or.inr (Or.inl (by decide +kernel)) | exact Or.inr (Or.inr (by decide +kernel))
theorem vi_law_spoilt_2 : Vis (defScope s_law_spoilt) "_law_way" := by first | exact Or.inl (by decide +kernel) | exact Or.inr (Or.inl (by decide +kernel)) | exact Or.inr (Or.inr (by decide +kernel))
theorem vi_law_spoilt_3 : Vis (defScope s_law_spoilt) "_law_at" := by first | exact Or.inl (by decide +kernel) | exact Or.inr (Or.inl (by decide +kernel)) | exact Or.inr (Or.inr (by decide +kernel))
theorem vi_law_spoilt_4 : Vis (defScope s_law_spoilt) "_law_signs_here" := by first | exact Or.inl (by decide +kernel) | exact Or.inr (Or.inl (by decide +kernel)) | exact Or.inr (Or.inr (by decide +kernel))
theorem vi_law_spoilt_5 : Vis (defScope s_law_spoilt) "_law_sign" := by first | exact Or.inl (by decide +kernel) | exact Or.inr (Or.inl (by decide +kernel)) | exact Or.inr (Or.inr (by decide +kernel))
theorem vi_law_spoilt_6 : Vis (defScope s_law_spoilt) "_law_some" := by first | exact Or.inl (by decide +kernel) | exact Or.inr (Or.inl (by decide +kernel)) | exact Or.inr (Or.inr (by decide +kernel))
theorem lo_law_spoilt_4 : Loc (defScope s_law_spoilt) "_law_signs_here" := by first | exact Or.inl (by decide +kernel) | exact Or.inr (by decide +kernel)
theorem lo_law_spoilt_5 : Loc (defScope s_law_spoilt) "_law_sign" := by first | exact Or.inl (by decide +kernel) | exact Or.inr (by decide +kernel)
theorem lo_law_spoilt_6 : Loc (defScope s_law_spoilt) "_law_some" := by first | exact Or.inl (by decide +kernel) | exact Or.inr (by decide +kernel)
theorem ok_law_spoilt (T : Txt K mg) : FnOk P w K mg base (L2.CX P w) 2 T.a_law_spoilt T.d_law_spoilt ["_law_box_here", "_law_text"] spSpoilt02 := by
  refine T.F_law_spoilt.okX sc_law_spoilt (fun vs H Q E h => ?_) (fun cdv A outer s H vs Q E hr h => ?_)
  · obtain ⟨_, _, rfl, _⟩ := h
    rfl
  obtain ⟨p, z, rfl, hb, lz, q⟩ := h
  refine ⟨_, (pss_cons (ps_par (i := 2) (j := 3) rfl sc_law_spoilt.nd rfl rfl (by decide) rfl rfl (pa_cons (pe_callD (ok_law_take T) (hr.mono (by decide)) rfl T.m_law_take T.F_law_take.kp T.b_law_take .nil (fun σ => passAt (takes_of rfl rfl rfl rfl) σ) (pa_cons (uv 0 (hv := vi_law_spoilt_0)) (pa_cons pe_int pa_nil))) (pa_cons (pe_callD (ok_law_take T) (hr.mono (by decide)) rfl T.m_law_take T.F_law_take.kp T.b_law_take .nil (fun σ => passAt (takes_of rfl rfl rfl rfl) σ) (pa_cons (uv 0 (hv := vi_law_spoilt_0)) (pa_cons (pe_op (show OpR _ (binaryOp .Add) (uAdd K) from uo_add) (pe_callB (show CallR _ (.builtin "len") (uLen K) from uk_len) rfl T.z_len boot_len (pa_cons (uv 1 (hv := vi_law_spoilt_1)) pa_nil)) pe_int) pa_nil))) pa_nil)) rfl)
      (pss_cons (ps_set (i := 4) sc_law_spoilt.nd rfl lo_law_spoilt_4 (pe_callD0 (ok_law_signs T) (hr.mono (by decide)) rfl T.m_law_signs T.F_law_signs.kp T.b_law_signs .nil (fun σ => passAt (takes_of rfl rfl rfl rfl) σ)))
      (pss_cons (ps_set (i := 5) sc_law_spoilt.nd rfl lo_law_spoilt_5 (pe_ix (show IxR _ (uIx K) from ux_seq) (uv 4 (hv := vi_law_spoilt_4)) (pe_callD (ok_law_take T) (hr.mono (by decide)) rfl T.m_law_take T.F_law_take.kp T.b_law_take .nil (fun σ => passAt (takes_of rfl rfl rfl rfl) σ) (pa_cons (uv 0 (hv := vi_law_spoilt_0)) (pa_cons (pe_callB (show CallR _ (.builtin "len") (uLen K) from uk_len) rfl T.z_len boot_len (pa_cons (uv 4 (hv := vi_law_spoilt_4)) pa_nil)) pa_nil))) (fun _ _ => rfl)))
      (pss_cons (ps_if (pt_cmpR op_eq (uv 2 (hv := vi_law_spoilt_2)) pe_int (nomark _)) (pss_cons (ps_set (i := 6) sc_law_spoilt.nd rfl lo_law_spoilt_6 (pe_lst (pa_cons pe_str (pa_cons pe_str (pa_cons pe_str (pa_cons pe_str (pa_cons pe_str (pa_cons pe_str (pa_cons pe_str (pa_cons pe_str (pa_cons pe_str (pa_cons pe_str (pa_cons pe_str (pa_cons pe_str (pa_cons pe_str (pa_cons pe_str (pa_cons pe_str (pa_cons pe_str pa_nil))))))))))))))))))
      (pss_cons (ps_set (i := 6) sc_law_spoilt.nd rfl lo_law_spoilt_6 (pe_op (show OpR _ (binaryOp .Add) (uAdd K) from uo_add) (uv 6 (hv := vi_law_spoilt_6)) (pe_lst (pa_cons pe_str (pa_cons pe_str (pa_cons pe_str (pa_cons pe_str (pa_cons (pe_op op_repS pe_str pe_int) (pa_cons (pe_op (show OpR _ (binaryOp .Add) (uAdd K) from uo_add) pe_str (pe_op op_repS pe_str pe_int)) (pa_cons (pe_op op_repS pe_str (pe_op (show OpR _ (binaryOp .Add) (uAdd K) from uo_add) pe_int (pe_callD (ok_law_take T) (hr.mono (by decide)) rfl T.m_law_take T.F_law_take.kp T.b_law_take .nil (fun σ => passAt (takes_of rfl rfl rfl rfl) σ) (pa_cons (uv 0 (hv := vi_law_spoilt_0)) (pa_cons pe_int pa_nil))))) pa_nil))))))))))
      (pss_one (ps_ret (pe_ix (show IxR _ (uIx K) from ux_seq) (uv 6 (hv := vi_law_spoilt_6)) (pe_callD (ok_law_take T) (hr.mono (by decide)) rfl T.m_law_take T.F_law_take.kp T.b_law_take .nil (fun σ => passAt (takes_of rfl rfl rfl rfl) σ) (pa_cons (uv 0 (hv := vi_law_spoilt_0)) (pa_cons (pe_callB (show CallR _ (.builtin "len") (uLen K) from uk_len) rfl T.z_len boot_len (pa_cons (uv 6 (hv := vi_law_spoilt_6)) pa_nil)) pa_nil))) (fun _ _ => rfl)))))) pss_nil)
      (pss_cons (ps_if (pt_cmpR op_eq (uv 2 (hv := vi_law_spoilt_2)) pe_int (nomark _)) (pss_one (ps_ret (pe_op (show OpR _ (binaryOp .Add) (uAdd K) from uo_add) (pe_op (show OpR _ (binaryOp .Add) (uAdd K) from uo_add) (pe_slice (show SlR _ (uSl K) from us_sl) (uv 1 (hv := vi_law_spoilt_1)) po_none (po_some (uv 3 (hv := vi_law_spoilt_3)))) (pe_slice (show SlR _ (uSl K) from us_sl) (uv 1 (hv := vi_law_spoilt_1)) (po_some (uv 3 (hv := vi_law_spoilt_3))) (po_some (pe_op (show OpR _ (binaryOp .Add) (uAdd K) from uo_add) (uv 3 (hv := vi_law_spoilt_3)) pe_int)))) (pe_slice (show SlR _ (uSl K) from us_sl) (uv 1 (hv := vi_law_spoilt_1)) (po_some (uv 3 (hv := vi_law_spoilt_3))) po_none)))) pss_nil)
      (pss_cons (ps_if (pt_cmpR op_eq (uv 2 (hv := vi_law_spoilt_2)) pe_int (nomark _)) (pss_one (ps_ret (pe_op (show OpR _ (binaryOp .Add) (uAdd K) from uo_add) (pe_slice (show SlR _ (uSl K) from us_sl) (uv 1 (hv := vi_law_spoilt_1)) po_none (po_some (uv 3 (hv := vi_law_spoilt_3)))) (pe_slice (show SlR _ (uSl K) from us_sl) (uv 1 (hv := vi_law_spoilt_1)) (po_some (pe_op (show OpR _ (binaryOp .Add) (uAdd K) from uo_add) (uv 3 (hv := vi_law_spoilt_3)) pe_int)) po_none)))) pss_nil)
      (pss_cons (ps_if (pt_cmpR op_eq (uv 2 (hv := vi_law_spoilt_2)) pe_int (nomark _)) (pss_one (ps_ret (pe_op (show OpR _ (binaryOp .Add) (uAdd K) from uo_add) (pe_op (show OpR _ (binaryOp .Add) (uAdd K) from uo_add) (pe_slice (show SlR _ (uSl K) from us_sl) (uv 1 (hv := vi_law_spoilt_1)) po_none (po_some (uv 3 (hv := vi_law_spoilt_3)))) (uv 5 (hv := vi_law_spoilt_5))) (pe_slice (show SlR _ (uSl K) from us_sl) (uv 1 (hv := vi_law_spoilt_1)) (po_some (pe_op (show OpR _ (binaryOp .Add) (uAdd K) from uo_add) (uv 3 (hv := vi_law_spoilt_3)) pe_int)) po_none)))) pss_nil)
      (pss_cons (ps_if (pt_cmpR op_eq (uv 2 (hv := vi_law_spoilt_2)) pe_int (nomark _)) (pss_one (ps_ret (pe_op (show OpR _ (binaryOp .Add) (uAdd K) from uo_add) (pe_op (show OpR _ (binaryOp .Add) (uAdd K) from uo_add) (pe_slice (show SlR _ (uSl K) from us_sl) (uv 1 (hv := vi_law_spoilt_1)) po_none (po_some (uv 3 (hv := vi_law_spoilt_3)))) (pe_ix (show IxR _ (uIx K) from ux_seq) pe_str (pe_callD (ok_law_take T) (hr.mono (by decide)) rfl T.m_law_take T.F_law_take.kp T.b_law_take .nil (fun σ => passAt (takes_of rfl rfl rfl rfl) σ) (pa_cons (uv 0 (hv := vi_law_spoilt_0)) (pa_cons pe_int pa_nil))) (fun _ _ => rfl))) (pe_slice (show SlR _ (uSl K) from us_sl) (uv 1 (hv := vi_law_spoilt_1)) (po_some (uv 3 (hv := vi_law_spoilt_3))) po_none)))) pss_nil)
      (pss_one (ps_ret (pe_op (show OpR _ (binaryOp .Add) (uAdd K) from uo_add) (pe_op (show OpR _ (binaryOp .Add) (uAdd K) from uo_add) (pe_slice (show SlR _ (uSl K) from us_sl) (uv 1 (hv := vi_law_spoilt_1)) po_none (po_some (uv 3 (hv := vi_law_spoilt_3)))) (uv 5 (hv := vi_law_spoilt_5))) (pe_slice (show SlR _ (uSl K) from us_sl) (uv 1 (hv := vi_law_spoilt_1)) (po_some (uv 3 (hv := vi_law_spoilt_3))) po_none)))))))))))), ?_⟩
  have lz2 : z.length ≤ 1000000 := by omega
  walk_at "go"
  refine ⟨p, 6, rfl, hb, by decide, by decide, fun way H1 w0 w1 b1 hb1 => ?_⟩
  walk_at "go"
  refine g_lenStr lz2 ?_
  walk_at "go"
  refine ⟨p, _, rfl, hb1, by omega, Nat.lt_of_lt_of_le (Bits.log (n := 14) (show (((z.length : Nat) : Int) + 1).natAbs < 2 ^ 14 by omega)) (by decide), fun at_ H2 a0 a1 b2 hb2 => ?_⟩
  obtain ⟨at_, rfl⟩ := Int.eq_ofNat_of_zero_le a0
  walk_at "go"
  refine ⟨rfl, ?_⟩
  walk_at "go"
  refine g_lenStr (z := signs02) (by decide +kernel) ?_
  have l97 : signs02.length = 95 := by decide +kernel
  rw [l97]
  walk_at "go"
  refine ⟨p, _, rfl, hb2, by decide, by decide, fun j H3 j0 j1 b3 hb3 => ?_⟩
  walk_at "go"
  obtain ⟨c, ec, hc⟩ := atI_ex (l := signs02.cps.toList) j0 (by rw [← str_len, l97]; omega)
  refine g_ixS (z := signs02) ec (by rw [l97]; decide) ?_
  have lc1 : (⟨#[c]⟩ : Str).length = 1 := rfl
  have b03 := (b1.trans b2).trans b3
  generalize (⟨#[c]⟩ : Str) = sg at lc1
  clear ec hc j0 j1 b1 b2 b3 hb1 hb2
  have hd0 := cut_head z at_
  have td0 := cut_tail z at_
  have td1 := cut_tail z (at_ + 1)
  rw [show (((at_ + 1 : Nat) : Nat) : Int) = (at_ : Int) + 1 by omega] at td1
  walk_at "go"
  refine i_eqI (fun cw => ?_) fun cw => ?_
  · walk_at "go"
    refine g_new fun l1 hl1 => ?_
    have f1 := Ex.new (o := .lst (some02.map V.str)) hl1
    have a1 := new_at (o := .lst (some02.map V.str)) hl1
    have hb4 := hb3.ex f1
    have nl1 := hb3.ne hl1
    have b04 := b03.trans (f1.but p)
    walk_at "go"
    refine g_repS (by decide) (by decide) (by decide) ?_
    walk_at "go"
    refine g_repS (by decide) (by decide) (by decide) ?_
    have k1 := repS_len "7" 31
    have k2 := repS_len "9" 31
    have k3 := app_len "1/" (repS "7" 31)
    have z1 : ("7" : Str).length = 1 := rfl
    have z2 : ("9" : Str).length = 1 := rfl
    have z3 : ("1/" : Str).length = 2 := rfl
    rw [z1] at k1
    rw [z2] at k2
    refine g_addS (by omega) ?_
    walk_at "go"
    refine ⟨p, 900, rfl, hb4, by decide, by decide, fun d4 H4 d40 d41 b4 hb5 => ?_⟩
    walk_at "go"
    refine g_repS (by omega) (by omega) (by decide) ?_
    have k4 := repS_len "8" (4301 + d4)
    have z4 : ("8" : Str).length = 1 := rfl
    rw [z4] at k4
    have a4 := b4 _ _ nl1 a1
    obtain ⟨ss, ess⟩ : ∃ ss : List Str, ss = [("1.0" : Str), ("1_0" : Str), ("0x1" : Str), ("1/2/3" : Str), repS "9" 31, ("1/" : Str) ++ repS "7" 31, repS "8" (4301 + d4)] := ⟨_, rfl⟩
    have sl : ∀ s ∈ ss, s.length ≤ 6000 := fun s hs => by
      rw [ess] at hs
      simp only [List.mem_cons, List.not_mem_nil, or_false] at hs
      rcases hs with rfl | rfl | rfl | rfl | rfl | rfl | rfl
      · decide
      · decide
      · decide
      · decide
      · omega
      · omega
      · omega
    walk_at "go"
    refine g_new fun l2 hl2 => ?_
    have f2 := Ex.new (o := .lst (ss.map V.str)) hl2
    have hss : upd H4 l2 (.lst [.str "1.0", .str "1_0", .str "0x1", .str "1/2/3", .str (repS "9" 31), .str ("1/" ++ repS "7" 31), .str (repS "8" (4301 + d4))]) = upd H4 l2 (.lst (ss.map V.str)) := by rw [ess]; rfl
    rw [hss]
    have lss : ss.length = 7 := by rw [ess]; rfl
    refine g_catL (f2 _ _ a4) upd_same (by rw [List.length_map, List.length_map, lss]; decide) fun l3 hl3 => ?_
    have e3 : (some02.map V.str) ++ ss.map V.str = (some02 ++ ss).map V.str := by rw [List.map_append]
    rw [e3]
    have f3 := Ex.new (o := .lst ((some02 ++ ss).map V.str)) hl3
    have f23 := f2.trans f3
    have hb6 := hb5.ex f23
    have n3 := (hb5.ex f2).ne hl3
    have a3 := new_at (o := .lst ((some02 ++ ss).map V.str)) hl3
    have b05 := (b04.trans b4).trans (f23.but p)
    have lall : ((some02 ++ ss).map V.str).length = 23 := by rw [List.length_map, List.length_append, lss]; rfl
    walk_at "go"
    rw [lall]
    refine ⟨p, _, rfl, hb6, by decide, by decide, fun j H5 j0 j1 b6 hb7 => ?_⟩
    walk_at "go"
    obtain ⟨y, ey, hy⟩ := atI_strs (ss := some02 ++ ss) j0 (by rw [← List.length_map (f := V.str), lall]; exact j1)
    refine g_ixL (b6 _ _ n3 a3) ey ?_
    walk_at "go"
    refine q y _ ?_ (b05.trans b6) hb7
    rcases List.mem_append.1 hy with h | h
    · exact Nat.le_trans (some02_len y h) (Nat.le_add_right _ _)
    · exact Nat.le_trans (sl y h) (Nat.le_add_right _ _)
  walk_at "go"
  refine i_eqI (fun cw => ?_) fun cw => ?_
  · walk_at "go"
    refine g_slS lz2 ?_
    walk_at "go"
    refine g_slS lz2 ?_
    have k0 := app_len (cutS z none (some (at_ : Int))) (cutS z (some (at_ : Int)) (some ((at_ : Int) + 1)))
    have k1 := app_len (cutS z none (some (at_ : Int)) ++ cutS z (some (at_ : Int)) (some ((at_ : Int) + 1))) (cutS z (some (at_ : Int)) none)
    have k2 := cutS_len z (some (at_ : Int)) (some ((at_ : Int) + 1))
    have k2' : (cutS z (some (at_ : Int)) (some ((at_ : Int) + 1))).length ≤ 1 := by
      rw [show (at_ : Int) + 1 = ((at_ + 1 : Nat) : Int) by omega, cut_one]
      cases z.cps.toList[at_]? with
      | none => decide
      | some c => exact Nat.le_refl _
    refine g_addS (by omega) ?_
    walk_at "go"
    refine g_slS lz2 ?_
    refine g_addS (by omega) ?_
    exact q _ _ (by omega) b03 hb3
  walk_at "go"
  refine i_eqI (fun cw => ?_) fun cw => ?_
  · walk_at "go"
    refine g_slS lz2 ?_
    walk_at "go"
    refine g_slS lz2 ?_
    have k0 := app_len (cutS z none (some (at_ : Int))) (cutS z (some ((at_ : Int) + 1)) none)
    refine g_addS (by omega) ?_
    exact q _ _ (by omega) b03 hb3
  walk_at "go"
  refine i_eqI (fun cw => ?_) fun cw => ?_
  · have k0 := app_len (cutS z none (some (at_ : Int))) sg
    have k1 := app_len (cutS z none (some (at_ : Int)) ++ sg) (cutS z (some ((at_ : Int) + 1)) none)
    walk_at "go"
    refine g_slS lz2 ?_
    walk_at "go"
    refine g_addS (by omega) ?_
    walk_at "go"
    refine g_slS lz2 ?_
    refine g_addS (by omega) ?_
    exact q _ _ (by omega) b03 hb3
  walk_at "go"
  refine i_eqI (fun cw => ?_) fun cw => ?_
  · walk_at "go"
    refine g_slS lz2 ?_
    walk_at "go"
    refine ⟨p, 4, rfl, hb3, by decide, by decide, fun j H4 j0 j1 b4 hb4 => ?_⟩
    walk_at "go"
    have l5 : ("0/-1" : Str).length = 4 := by decide
    obtain ⟨c, ec, hc⟩ := atI_ex (l := ("0/-1" : Str).cps.toList) j0 (by rw [← str_len, l5]; exact j1)
    refine g_ixS (z := "0/-1") ec (by rw [l5]; decide) ?_
    have lc2 : (⟨#[c]⟩ : Str).length = 1 := rfl
    generalize (⟨#[c]⟩ : Str) = s2 at lc2
    have k0 := app_len (cutS z none (some (at_ : Int))) s2
    have k1 := app_len (cutS z none (some (at_ : Int)) ++ s2) (cutS z (some (at_ : Int)) none)
    refine g_addS (by omega) ?_
    walk_at "go"
    refine g_slS lz2 ?_
    refine g_addS (by omega) ?_
    exact q _ _ (by omega) (b03.trans b4) hb4
  · have k0 := app_len (cutS z none (some (at_ : Int))) sg
    have k1 := app_len (cutS z none (some (at_ : Int)) ++ sg) (cutS z (some (at_ : Int)) none)
    walk_at "go"
    refine g_slS lz2 ?_
    walk_at "go"
    refine g_addS (by omega) ?_
    walk_at "go"
    refine g_slS lz2 ?_
    refine g_addS (by omega) ?_
    exact q _ _ (by omega) b03 hb3
theorem vi_fraction_of_0 : Vis (defScope s_fraction_of) "upper" := by first | exact Or.inl (by decide +kernel) | exact Or.inr (Or.inl (by decide +kernel)) | exact Or.inr (Or.inr (by decide +kernel))
theorem vi_fraction_of_1 : Vis (defScope s_fraction_of) "lower" := by first | exact Or.inl (by decide +kernel) | exact Or.inr (Or.inl (by decide +kernel)) | exact Or.inr (Or.inr (by decide +kernel))
theorem vi_fraction_of_2 : Vis (defScope s_fraction_of) "part" := by first | exact Or.inl (by decide +kernel) | exact Or.inr (Or.inl (by decide +kernel)) | exact Or.inr (Or.inr (by decide +kernel))
theorem lo_fraction_of_2 : Loc (defScope s_fraction_of) "part" := by first | exact Or.inl (by decide +kernel) | exact Or.inr (by decide +kernel)
theorem ok_fraction_of (T : Txt K mg) : FnOk P w K mg base (L2.CX P w) 3 T.a_fraction_of T.d_fraction_of ["upper", "lower"] (spFrac T.a_Nought) := by
  refine T.F_fraction_of.ok sc_fraction_of (fun vs H Q E h => ?_) (fun cdv A outer s H vs Q E hr h => ?_)
  · obtain ⟨a, b, rfl, _⟩ := h
    rfl
  obtain ⟨u, l, rfl, bu, bl, q0, q⟩ := h
  refine ⟨_, (pss_cons (ps_if (pt_cmpR op_eq (uv 1 (hv := vi_fraction_of_1)) pe_int (nomark _)) (pss_one (ps_raise rfl (takes_of rfl rfl rfl rfl) (pmk_x0 PySem.F.excBase_ZeroDivisionError T.x_Nought T.i_Nought T.t_Nought (ok_init_Nought T T.z_ZeroDivisionError) (hr.mono (by decide)) T.bI_Nought passL T.m_Nought rfl))) pss_nil)
      (pss_cons (ps_set (i := 2) sc_fraction_of.nd rfl lo_fraction_of_2 (pe_callD (ok_common_part T) (hr.mono (by decide)) rfl T.m_common_part T.F_common_part.kp T.b_common_part .nil (fun σ => passAt (takes_of rfl rfl rfl rfl) σ) (pa_cons (uv 0 (hv := vi_fraction_of_0)) (pa_cons (uv 1 (hv := vi_fraction_of_1)) pa_nil))))
      (pss_cons (ps_if (pt_cmpR uo_lt (uv 1 (hv := vi_fraction_of_1)) pe_int (nomark _)) (pss_one (ps_set (i := 2) sc_fraction_of.nd rfl lo_fraction_of_2 (pe_op uo_sub pe_int (uv 2 (hv := vi_fraction_of_2))))) pss_nil)
      (pss_one (ps_ret (pe_tup (pa_cons (pe_op uo_fd (uv 0 (hv := vi_fraction_of_0)) (uv 2 (hv := vi_fraction_of_2))) (pa_cons (pe_op uo_fd (uv 1 (hv := vi_fraction_of_1)) (uv 2 (hv := vi_fraction_of_2))) pa_nil)))))))), ?_⟩
  walk_at "go"
  refine i_eqI (fun c => ?_) fun c => ?_
  · walk_at "go"
    intro a ha
    exact ⟨a, T.a_Nought, rfl, T.x_Nought, upd_same, rfl, rfl, q0 c⟩
  · walk_at "go"
    refine ⟨_, _, rfl, ?_⟩
    have fin : ∀ g : Int, g = fpt u l → _ := fun g e => by
      subst e
      exact q c
    have e0 := fpt_ne (u := u) c
    have cf : CFd u (fpt u l) := (fpt_bits c bl).fd e0
    have cl : CFd l (fpt u l) := (fpt_bits c bl).fd e0
    walk_at "go"
    refine i_d (fun k => ?_) fun k => ?_
    · have e : (0 : Int) - (Int.gcd u l : Nat) = fpt u l := (if_pos k).symm
      walk_at "go"
      rw [e]
      refine g_i ?_ cf
      walk_at "go"
      exact g_new (q c)
    · have e : ((Int.gcd u l : Nat) : Int) = fpt u l := (if_neg k).symm
      walk_at "go"
      rw [e]
      refine g_i ?_ cf
      walk_at "go"
      exact g_new (q c)
theorem vi_read_fraction_0 : Vis (defScope s_read_fraction) "text" := by first | exact Or.inl (by decide +kernel) | exact Or.inr (Or.inl (by decide +kernel)) | exact Or.inr (Or.inr (by decide +kernel))
theorem vi_read_fraction_1 : Vis (defScope s_read_fraction) "upper" := by first | exact Or.inl (by decide +kernel) | exact Or.inr (Or.inl (by decide +kernel)) | exact Or.inr (Or.inr (by decide +kernel))
theorem vi_read_fraction_2 : Vis (defScope s_read_fraction) "stroke" := by first | exact Or.inl (by decide +kernel) | exact Or.inr (Or.inl (by decide +kernel)) | exact Or.inr (Or.inr (by decide +kernel))
theorem vi_read_fraction_3 : Vis (defScope s_read_fraction) "lower" := by first | exact Or.inl (by decide +kernel) | exact Or.inr (Or.inl (by decide +kernel)) | exact Or.inr (Or.inr (by decide +kernel))
theorem vi_read_fraction_4 : Vis (defScope s_read_fraction) "figures" := by first | exact Or.inl (by decide +kernel) | exact Or.inr (Or.inl (by decide +kernel)) | exact Or.inr (Or.inr (by decide +kernel))
theorem vi_read_fraction_5 : Vis (defScope s_read_fraction) "found" := by first | exact Or.inl (by decide +kernel) | exact Or.inr (Or.inl (by decide +kernel)) | exact Or.inr (Or.inr (by decide +kernel))
theorem lo_read_fraction_1 : Loc (defScope s_read_fraction) "upper" := by first | exact Or.inl (by decide +kernel) | exact Or.inr (by decide +kernel)
theorem lo_read_fraction_2 : Loc (defScope s_read_fraction) "stroke" := by first | exact Or.inl (by decide +kernel) | exact Or.inr (by decide +kernel)
theorem lo_read_fraction_3 : Loc (defScope s_read_fraction) "lower" := by first | exact Or.inl (by decide +kernel) | exact Or.inr (by decide +kernel)
theorem lo_read_fraction_4 : Loc (defScope s_read_fraction) "figures" := by first | exact Or.inl (by decide +kernel) | exact Or.inr (by decide +kernel)
theorem lo_read_fraction_5 : Loc (defScope s_read_fraction) "found" := by first | exact Or.inl (by decide +kernel) | exact Or.inr (by decide +kernel)
theorem ok_read_fraction (T : Txt K mg) : FnOk P w K mg base (L2.CX P w) 4 T.a_read_fraction T.d_read_fraction ["text"] (spReadFx T.a_NoText) := by
  refine T.F_read_fraction.okX sc_read_fraction (fun vs H Q E h => ?_) (fun cdv A outer s H vs Q E hr h => ?_)
  · obtain ⟨_, rfl, _⟩ := h
    rfl
  obtain ⟨z, rfl, hz, q0, q1⟩ := h
  refine ⟨_, (pss_cons (ps_asg (pe_partition (uv 0 (hv := vi_read_fraction_0)) pe_str) (pg_tup rfl (pgs_cons (pg_name (i := 1) sc_read_fraction.nd rfl lo_read_fraction_1) (pgs_cons (pg_name (i := 2) sc_read_fraction.nd rfl lo_read_fraction_2) (pgs_cons (pg_name (i := 3) sc_read_fraction.nd rfl lo_read_fraction_3) pgs_nil)))))
      (pss_cons (ps_set (i := 4) sc_read_fraction.nd rfl lo_read_fraction_4 (pe_slice us_sl (uv 1 (hv := vi_read_fraction_1)) (po_some (pe_callTy uk_int rfl T.z_int boot_int (pa_cons (pe_m1 PySem.F.slot_str_startswith PySem.F.type_str_startswith mt_startswith (uv 1 (hv := vi_read_fraction_1)) pe_str) pa_nil))) po_none))
      (C8.pss_cut (ps_if (pt_cmpR op_eq (uv 2 (hv := vi_read_fraction_2)) pe_str (nomark _)) (pss_one (ps_set (i := 3) sc_read_fraction.nd rfl lo_read_fraction_3 pe_str)) pss_nil)
      (pss_cons (ps_if (PW.pt (pw_or (pt_not (ut (pe_callD (ok_is_figures T) (hr.mono (by decide)) rfl T.m_is_figures T.F_is_figures.kp T.b_is_figures .nil (fun σ => passAt (takes_of rfl rfl rfl rfl) σ) (pa_cons (uv 4 (hv := vi_read_fraction_4)) pa_nil)))) (pw_or (pt_not (ut (pe_callD (ok_is_figures T) (hr.mono (by decide)) rfl T.m_is_figures T.F_is_figures.kp T.b_is_figures .nil (fun σ => passAt (takes_of rfl rfl rfl rfl) σ) (pa_cons (uv 3 (hv := vi_read_fraction_3)) pa_nil)))) (pw_or1 (pt_cmpR op_eq (uv 3 (hv := vi_read_fraction_3)) pe_str (nomark _)))))) (pss_one (ps_raise rfl (takes_of rfl rfl rfl rfl) (pmk_oex T.o_NoText T.i_NoText T.t_NoText (ok_init_NoText T) (hr.mono (by decide)) T.bI_NoText .nil passL rfl T.m_NoText (pa_cons pe_int pa_nil)))) pss_nil)
      (pss_cons (ps_set (i := 5) sc_read_fraction.nd rfl lo_read_fraction_5 (pe_callD (ok_fraction_of T) (hr.mono (by decide)) rfl T.m_fraction_of T.F_fraction_of.kp T.b_fraction_of .nil (fun σ => passAt (takes_of rfl rfl rfl rfl) σ) (pa_cons (pe_callTy uk_intS rfl T.z_int boot_int (pa_cons (uv 1 (hv := vi_read_fraction_1)) pa_nil)) (pa_cons (pe_callTy uk_intS rfl T.z_int boot_int (pa_cons (uv 3 (hv := vi_read_fraction_3)) pa_nil)) pa_nil))))
      (pss_cons (ps_if (pt_cmpR op_ne (pe_callD (ok_show_fraction T) (hr.mono (by decide)) rfl T.m_show_fraction T.F_show_fraction.kp T.b_show_fraction .nil (fun σ => passAt (takes_of rfl rfl rfl rfl) σ) (pa_cons (uv 5 (hv := vi_read_fraction_5)) pa_nil)) (uv 0 (hv := vi_read_fraction_0)) (nomark _)) (pss_one (ps_raise rfl (takes_of rfl rfl rfl rfl) (pmk_oex T.o_NoText T.i_NoText T.t_NoText (ok_init_NoText T) (hr.mono (by decide)) T.bI_NoText .nil passL rfl T.m_NoText (pa_cons pe_int pa_nil)))) pss_nil)
      (pss_one (ps_ret (uv 5 (hv := vi_read_fraction_5)))))))))), ?_⟩
  walk_at "go"
  have pl := part_ok (z := z) (y := "/") slash_list
  have ER : readFx z = if isFigs (bareS (Txt.partition z "/").1) = true ∧ isFigs (lowS (Txt.partition z "/")) = true ∧ lowS (Txt.partition z "/") ≠ "0" then
    (if showFx (lowF (intT (Txt.partition z "/").1) (intT (lowS (Txt.partition z "/")))) = z then some (lowF (intT (Txt.partition z "/").1) (intT (lowS (Txt.partition z "/")))) else none)
  else none := rfl
  refine ⟨z, "/", rfl, rfl, by decide, Nat.le_trans (by omega : z.length ≤ 1000000) (by decide), fun p hp => ?_⟩
  revert pl ER
  generalize Txt.partition z "/" = pt
  obtain ⟨up, st, lw⟩ := pt
  intro pl ER
  obtain ⟨pl1, pl2, _, _⟩ := pl
  replace pl1 : up.length ≤ z.length := pl1
  replace pl2 : lw.length ≤ z.length := pl2
  have e1 := Ex.new (o := .tup [V.str up, V.str st, V.str lw]) hp
  have a1 := @upd_same H p (.tup [V.str up, V.str st, V.str lw])
  show gTup _ _ _ _ _ (upd H p (.tup [V.str up, V.str st, V.str lw])) _
  revert e1 a1
  generalize upd H p (.tup [V.str up, V.str st, V.str lw]) = H1
  intro e1 a1
  refine g_tup3 a1 ?_
  walk_at "go"
  refine ⟨_, _, rfl, rfl, ?_⟩
  walk_at "go"
  refine g_slS (by omega) ?_
  walk_at "go"
  refine ⟨fun σ H2 => σ = [some (.str z), some (.str up), some (.str st), some (.str (lowS (up, st, lw))), some (.str (bareS up)), none] ∧ Ex H H2, ?_, ?_⟩
  · walk_at "go"
    refine i_eqS (fun c => ?_) fun c => ?_
    · walk_at "go"
      have e : lowS (up, st, lw) = "1" := if_pos c
      rw [e]
      exact ⟨rfl, e1⟩
    · have e : lowS (up, st, lw) = lw := if_neg c
      rw [e]
      exact ⟨rfl, e1⟩
  rintro σ H2 ⟨rfl, e2⟩
  have ll : (lowS (up, st, lw)).length ≤ 500000 := by
    unfold lowS
    split
    · decide
    · show lw.length ≤ _
      omega
  have lb := cutS_len up (some (b2z (hasSign up))) none
  replace lb : (bareS up).length ≤ up.length := lb
  generalize lowS (up, st, lw) = lo at ll ER
  replace ER : readFx z = if isFigs (bareS up) = true ∧ isFigs lo = true ∧ lo ≠ "0" then (if showFx (lowF (intT up) (intT lo)) = z then some (lowF (intT up) (intT lo)) else none) else none := ER
  walk_at "go"
  refine ⟨bareS up, rfl, by omega, fun H3 e3 => ?_⟩
  have e23 := e2.trans e3
  have bad : ∀ H', Ex H H' → ¬ (isFigs (bareS up) = true ∧ isFigs lo = true ∧ lo ≠ "0") → ∀ d H9, Ex H' H9 → H9 d = some (.xd [("row", .int 0)]) → E (.ref T.a_NoText) (some d) H9 := fun H' x c d H9 y hd => q0 (by rw [ER, if_neg c]) d H9 (x.trans y) hd
  walk_at "go"
  cases c1 : isFigs (bareS up) with
  | false =>
    walk_at "go"
    exact end_exc1 T.x_NoText T.o_NoText T.n_NoText_row fun d H' e h => bad _ e23 (by rw [c1]; exact fun z => (nomatch z.1)) d H' e h
  | true =>
  walk_at "go"
  refine ⟨lo, rfl, ll, fun H4 e4 => ?_⟩
  have e24 := e23.trans e4
  walk_at "go"
  cases c2 : isFigs lo with
  | false =>
    walk_at "go"
    exact end_exc1 T.x_NoText T.o_NoText T.n_NoText_row fun d H' e h => bad _ e24 (by rw [c2]; exact fun z => (nomatch z.2.1)) d H' e h
  | true =>
  walk_at "go"
  refine i_eqS (fun c3 => ?_) fun c3 => ?_
  · walk_at "go"
    exact end_exc1 T.x_NoText T.o_NoText T.n_NoText_row fun d H' e h => bad _ e24 (fun z => z.2.2 c3) d H' e h
  rw [if_pos ⟨c1, c2, c3⟩] at ER
  obtain ⟨i1, i2, i3⟩ := figs_int c1
  obtain ⟨j1, j2, j3, j4⟩ := figs_low c2 c3
  walk_at "go"
  refine g_intS i1 (by omega) ?_
  walk_at "go"
  refine g_intS j1 (by omega) ?_
  walk_at "go"
  have b1 : Bits 100 (intT up) := Nat.lt_trans i2 ten30
  have b2 : Bits 100 (intT lo) := Nat.lt_trans j3 ten30
  have nz : intT lo ≠ 0 := by omega
  refine ⟨_, _, rfl, b1.le (by decide), b2.le (by decide), fun z => absurd z nz, fun _ q hq => ?_⟩
  have e5 := e24.trans (Ex.new (o := .tup [.int (fru (intT up) (intT lo)), .int (frl (intT up) (intT lo))]) hq)
  have a5 := @upd_same H4 q (.tup [.int (fru (intT up) (intT lo)), .int (frl (intT up) (intT lo))])
  revert e5 a5
  generalize upd H4 q (.tup [.int (fru (intT up) (intT lo)), .int (frl (intT up) (intT lo))]) = H5
  intro e5 a5
  walk_at "go"
  refine ⟨q, lowF (intT up) (intT lo), rfl, a5, bits_pow ((fru_bits nz b1).le (by decide)), bits_pow ((frl_bits nz b2).le (by decide)), ?_⟩
  walk_at "go"
  refine i_neS (fun c4 => ?_) fun c4 => ?_
  · walk_at "go"
    exact end_exc1 T.x_NoText T.o_NoText T.n_NoText_row fun d H' e h => q0 (by rw [ER, if_neg c4]) d H' (e5.trans e) h
  · walk_at "go"
    exact q1 _ (by rw [ER, if_pos c4]) q _ e5 a5
theorem vi_law_heard_0 : Vis (defScope s_law_heard) "_law_text" := by first | exact Or.inl (by decide +kernel) | exact Or.inr (Or.inl (by decide +kernel)) | exact Or.inr (Or.inr (by decide +kernel))
theorem vi_law_heard_1 : Vis (defScope s_law_heard) "_law_found" := by first | exact Or.inl (by decide +kernel) | exact Or.inr (Or.inl (by decide +kernel)) | exact Or.inr (Or.inr (by decide +kernel))
theorem vi_law_heard_2 : Vis (defScope s_law_heard) "e" := by first | exact Or.inl (by decide +kernel) | exact Or.inr (Or.inl (by decide +kernel)) | exact Or.inr (Or.inr (by decide +kernel))
theorem vi_law_heard_3 : Vis (defScope s_law_heard) "_law_others" := by first | exact Or.inl (by decide +kernel) | exact Or.inr (Or.inl (by decide +kernel)) | exact Or.inr (Or.inr (by decide +kernel))
theorem lo_law_heard_1 : Loc (defScope s_law_heard) "_law_found" := by first | exact Or.inl (by decide +kernel) | exact Or.inr (by decide +kernel)
theorem lo_law_heard_3 : Loc (defScope s_law_heard) "_law_others" := by first | exact Or.inl (by decide +kernel) | exact Or.inr (by decide +kernel)
theorem ok_law_heard (T : Txt K mg) : FnOk P w K mg base (L2.CX P w) 5 T.a_law_heard T.d_law_heard ["_law_text"] spHeard02 := by
  refine T.F_law_heard.okX sc_law_heard (fun vs H Q E h => ?_) (fun cdv A outer s H vs Q E hr h => ?_)
  · obtain ⟨_, rfl, _⟩ := h
    rfl
  obtain ⟨z, rfl, lz, q⟩ := h
  refine ⟨_, (pss_cons (ps_set (i := 1) sc_law_heard.nd rfl lo_law_heard_1 pe_non)
      (pss_cons (ps_try_as (i := 2) rfl rfl sc_law_heard.nd rfl rfl ⟨rfl, by decide, .inl T.m_NoText⟩ (takes_of rfl rfl rfl rfl) (fun W pn xe tk po => (pss_one (ps_set (i := 1) sc_law_heard.nd rfl lo_law_heard_1 (pe_tup (pa_cons pe_str (pa_cons (pe_callD (ok_read_fraction T) (hr.mono (by decide)) rfl T.m_read_fraction T.F_read_fraction.kp T.b_read_fraction .nil (fun σ => passAt tk σ) (pa_cons (uv 0 (hv := vi_law_heard_0)) pa_nil)) pa_nil)))))) (fun a oe cls d pn hz hf => (pss_cons (ps_set (i := 3) sc_law_heard.nd rfl lo_law_heard_3 (pe_callB (uk_isK K hz hf) rfl T.z_isinstance boot_isinstance (pa_cons (uv 2 (hv := vi_law_heard_2)) (pa_cons (pe_tup (pa_cons (pe_glob (v := .ref T.a_NoFit) rfl T.m_NoFit rfl) (pa_cons (pe_glob (v := .ref T.a_NoPrinter) rfl T.m_NoPrinter rfl) (pa_cons (pe_glob (v := .ref T.a_NoReader) rfl T.m_NoReader rfl) (pa_cons (pe_glob (v := .ref T.a_NoRow) rfl T.m_NoRow rfl) (pa_cons (pe_glob (v := .ref T.a_NoTree) rfl T.m_NoTree rfl) (pa_cons (pe_glob (v := .ref T.a_NoTurner) rfl T.m_NoTurner rfl) (pa_cons (pe_glob (v := .ref T.a_NoWood) rfl T.m_NoWood rfl) (pa_cons (pe_glob (v := .ref T.a_NoWord) rfl T.m_NoWord rfl) (pa_cons (pe_glob (v := .ref T.a_TooLong) rfl T.m_TooLong rfl) (pa_cons (pe_glob (v := .ref T.a_TooWide) rfl T.m_TooWide rfl) pa_nil))))))))))) pa_nil))))
      (pss_cons (ps_set (i := 3) sc_law_heard.nd rfl lo_law_heard_3 (pe_or (uv 3 (hv := vi_law_heard_3)) (pe_or (pe_callB (uk_isK K hz hf) rfl T.z_isinstance boot_isinstance (pa_cons (uv 2 (hv := vi_law_heard_2)) (pa_cons (pe_tup (pa_cons (pe_glob (v := .ref T.a_NoBox) rfl T.m_NoBox rfl) (pa_cons (pe_glob (v := .ref T.a_NotKept) rfl T.m_NotKept rfl) (pa_cons (pe_glob (v := .ref T.a_Nought) rfl T.m_Nought rfl) pa_nil)))) pa_nil))) (pe_one (pe_callB (show CallR _ (.builtin "isinstance") (uIs K) from uk_is) rfl T.z_isinstance boot_isinstance (pa_cons (pe_xf (xfC T.c_NoText) T.n_NoText_row hz hf (uv 2)) (pa_cons (pe_bltn (v := .ty "bool") rfl T.z_bool boot_bool rfl) pa_nil)))))))
      (pss_one (ps_set (i := 1) sc_law_heard.nd rfl lo_law_heard_1 (pe_tup (pa_cons pe_str (pa_cons (pe_xf (xfC T.c_NoText) T.n_NoText_row hz hf (uv 2)) (pa_cons (pe_and (pe_callB (uk_isK K hz hf) rfl T.z_isinstance boot_isinstance (pa_cons (uv 2 (hv := vi_law_heard_2)) (pa_cons (pe_glob (v := .ref T.a_BoughError) rfl T.m_BoughError rfl) pa_nil))) (pe_one (pe_callB (uk_isK K hz hf) rfl T.z_isinstance boot_isinstance (pa_cons (uv 2 (hv := vi_law_heard_2)) (pa_cons (pe_bltn (v := .ty "ValueError") rfl T.z_ValueError (by decide +kernel) rfl) pa_nil))))) (pa_cons (uv 3 (hv := vi_law_heard_3)) pa_nil)))))))))))
      (pss_one (ps_ret (uv 1 (hv := vi_law_heard_1)))))), ?_⟩
  walk_at "go"
  refine ⟨z, rfl, by omega, fun en dx H' e hx => ?_, fun f ef p H' e hp => ?_⟩
  rotate_left
  · walk_at "go"
    refine g_new fun t ht => ?_
    walk_at "go"
    refine q _ _ (e.trans (Ex.new ht)) ?_
    rw [ef]
    exact Rep.two upd_same rfl (Rep.two (Ex.new ht _ _ hp) rfl rfl)
  refine ⟨true, PySem.W.exm_ref T.c_NoText.hs T.c_NoText.hd T.t0_NoText T.s0_NoText, fun _ a2 ha2 => ?_, fun q => nomatch q⟩
  have hd : ∀ {H2 : Hp}, Ex H' H2 → DOk H2 (some dx) := fun e2 => .inr ⟨dx, _, rfl, e2 _ _ hx⟩
  walk_at "go"
  refine g_new fun tp htp => ?_
  have e2 := Ex.new (o := .tup [.ref T.a_NoFit, .ref T.a_NoPrinter, .ref T.a_NoReader, .ref T.a_NoRow, .ref T.a_NoTree, .ref T.a_NoTurner, .ref T.a_NoWood, .ref T.a_NoWord, .ref T.a_TooLong, .ref T.a_TooWide]) htp
  walk_at "go"
  refine g_isXN (Cs := [T.a_NoFit, T.a_NoPrinter, T.a_NoReader, T.a_NoRow, T.a_NoTree, T.a_NoTurner, T.a_NoWood, T.a_NoWord, T.a_TooLong, T.a_TooWide]) T.c_NoText (hd e2) upd_same (fun F hF => ?_) ?_
  · simp only [List.mem_cons, List.not_mem_nil, or_false] at hF
    rcases hF with rfl | rfl | rfl | rfl | rfl | rfl | rfl | rfl | rfl | rfl
    · exact kit_own T.h0 T.s0_NoText T.i0_NoFit T.t0_NoFit
    · exact kit_own T.h1 T.s0_NoText T.i0_NoPrinter T.t0_NoPrinter
    · exact kit_own T.h2 T.s0_NoText T.i0_NoReader T.t0_NoReader
    · exact kit_own T.h3 T.s0_NoText T.i0_NoRow T.t0_NoRow
    · exact kit_own T.h4 T.s0_NoText T.i0_NoTree T.t0_NoTree
    · exact kit_own T.h5 T.s0_NoText T.i0_NoTurner T.t0_NoTurner
    · exact kit_own T.h6 T.s0_NoText T.i0_NoWood T.t0_NoWood
    · exact kit_own T.h7 T.s0_NoText T.i0_NoWord T.t0_NoWord
    · exact kit_own T.h8 T.s0_NoText T.i0_TooLong T.t0_TooLong
    · exact kit_own T.h9 T.s0_NoText T.i0_TooWide T.t0_TooWide
  clear htp
  revert e2
  generalize upd H' tp (.tup [.ref T.a_NoFit, .ref T.a_NoPrinter, .ref T.a_NoReader, .ref T.a_NoRow, .ref T.a_NoTree, .ref T.a_NoTurner, .ref T.a_NoWood, .ref T.a_NoWord, .ref T.a_TooLong, .ref T.a_TooWide]) = H2
  intro e2
  walk_at "go"
  refine g_new fun tq htq => ?_
  have e3 := e2.trans (Ex.new (o := .tup [.ref T.a_NoBox, .ref T.a_NotKept, .ref T.a_Nought]) htq)
  walk_at "go"
  refine g_isXN (Cs := [T.a_NoBox, T.a_NotKept, T.a_Nought]) T.c_NoText (hd e3) upd_same (fun F hF => ?_) ?_
  · simp only [List.mem_cons, List.not_mem_nil, or_false] at hF
    rcases hF with rfl | rfl | rfl
    · exact kit_own T.h10 T.s0_NoText T.i0_NoBox T.t0_NoBox
    · exact kit_own T.h11 T.s0_NoText T.i0_NotKept T.t0_NotKept
    · exact kit_own T.h12 T.s0_NoText T.i0_Nought T.t0_Nought
  clear htq
  revert e3
  generalize upd H2 tq (.tup [.ref T.a_NoBox, .ref T.a_NotKept, .ref T.a_Nought]) = H3
  intro e3
  walk_at "go"
  refine ⟨rfl, rfl, _, _, _, rfl, e3 _ _ hx, rfl, ?_⟩
  walk_at "go"
  refine g_isD (d := .int 0) rfl rfl ?_
  walk_at "go"
  refine ⟨rfl, rfl, _, _, _, rfl, e3 _ _ hx, rfl, ?_⟩
  walk_at "go"
  refine g_isXC T.c_NoText (hd e3) (kit_own T.hE T.s0_NoText T.i0_BoughError T.t0_BoughError) ?_
  walk_at "go"
  refine g_isXT T.c_NoText (hd e3) (kit_sub T.hV) ?_
  walk_at "go"
  refine g_new fun r hr => ?_
  walk_at "go"
  refine q _ _ ((e.trans e3).trans (Ex.new hr)) ?_
  rw [en]
  exact Rep.tupO upd_same ⟨_, _, rfl, rfl, _, _, rfl, rfl, _, _, rfl, rfl, _, _, rfl, rfl, rfl⟩
theorem vi_law_right_0 : Vis (defScope s_law_right) "_law_text" := by first | exact Or.inl (by decide +kernel) | exact Or.inr (Or.inl (by decide +kernel)) | exact Or.inr (Or.inr (by decide +kernel))
theorem vi_law_right_1 : Vis (defScope s_law_right) "_law_due" := by first | exact Or.inl (by decide +kernel) | exact Or.inr (Or.inl (by decide +kernel)) | exact Or.inr (Or.inr (by decide +kernel))
theorem lo_law_right_1 : Loc (defScope s_law_right) "_law_due" := by first | exact Or.inl (by decide +kernel) | exact Or.inr (by decide +kernel)
theorem ok_law_right (T : Txt K mg) : FnOk P w K mg base (L2.CX P w) 6 T.a_law_right T.d_law_right ["_law_text"] spRight02 := by
  refine T.F_law_right.okX sc_law_right (fun vs H Q E h => ?_) (fun cdv A outer s H vs Q E hr h => ?_)
  · obtain ⟨_, rfl, _⟩ := h
    rfl
  obtain ⟨z, rfl, lz, q⟩ := h
  refine ⟨_, (pss_cons (ps_set (i := 1) sc_law_right.nd rfl lo_law_right_1 (pe_callD (ok_law_in T) (hr.mono (by decide)) rfl T.m_law_in T.F_law_in.kp T.b_law_in .nil (fun σ => passAt (takes_of rfl rfl rfl rfl) σ) (pa_cons (uv 0 (hv := vi_law_right_0)) pa_nil)))
      (pss_cons (ps_if (pt_cmpR uo_isN (uv 1 (hv := vi_law_right_1)) pe_non (nomark _)) (pss_one (ps_ret (pe_callD (ok_law_alike T) (hr.mono (by decide)) rfl T.m_law_alike T.F_law_alike.kp T.b_law_alike .nil (fun σ => passAt (takes_of rfl rfl rfl rfl) σ) (pa_cons (pe_callD (ok_law_heard T) (hr.mono (by decide)) rfl T.m_law_heard T.F_law_heard.kp T.b_law_heard .nil (fun σ => passAt (takes_of rfl rfl rfl rfl) σ) (pa_cons (uv 0 (hv := vi_law_right_0)) pa_nil)) (pa_cons (pe_tup (pa_cons pe_str (pa_cons pe_int (pa_cons pe_bl (pa_cons pe_bl pa_nil))))) pa_nil))))) pss_nil)
      (pss_one (ps_ret (pe_and (pe_callD (ok_law_alike T) (hr.mono (by decide)) rfl T.m_law_alike T.F_law_alike.kp T.b_law_alike .nil (fun σ => passAt (takes_of rfl rfl rfl rfl) σ) (pa_cons (pe_callD (ok_law_heard T) (hr.mono (by decide)) rfl T.m_law_heard T.F_law_heard.kp T.b_law_heard .nil (fun σ => passAt (takes_of rfl rfl rfl rfl) σ) (pa_cons (uv 0 (hv := vi_law_right_0)) pa_nil)) (pa_cons (pe_tup (pa_cons pe_str (pa_cons (uv 1 (hv := vi_law_right_1)) pa_nil))) pa_nil))) (pe_one (pe_cmpR op_eq (pe_callD (ok_show_fraction T) (hr.mono (by decide)) rfl T.m_show_fraction T.F_show_fraction.kp T.b_show_fraction .nil (fun σ => passAt (takes_of rfl rfl rfl rfl) σ) (pa_cons (uv 1 (hv := vi_law_right_1)) pa_nil)) (uv 0 (hv := vi_law_right_0)) (nomark _)))))))), ?_⟩
  walk_at "go"
  refine ⟨z, rfl, lz, fun e H1 e1 => ?_, fun f e p H1 e1 hp => ?_⟩
  · walk_at "go"
    refine ⟨z, rfl, lz, fun v H2 e2 rv => ?_⟩
    rw [e] at rv
    walk_at "go"
    refine g_new fun t ht => ?_
    have f3 := Ex.new (o := .tup [.str "refused", .int 0, .bl true, .bl false]) ht
    walk_at "go"
    refine ⟨heardD none, v, _, rfl, rv.ex f3, Rep.tupO upd_same ⟨_, _, rfl, rfl, _, _, rfl, rfl, _, _, rfl, rfl, _, _, rfl, rfl, rfl⟩, by decide, fun H3 e3 => ?_⟩
    exact q _ (((e1.trans e2).trans f3).trans e3)
  · obtain ⟨_, lw, b1, b2, es, _⟩ := shown_parts e
    walk_at "go"
    refine ⟨z, rfl, lz, fun v H2 e2 rv => ?_⟩
    rw [e] at rv
    walk_at "go"
    refine g_new fun t ht => ?_
    have f3 := Ex.new (o := .tup [.str "told", .ref p]) ht
    walk_at "go"
    refine ⟨heardD (some f), v, _, rfl, rv.ex f3, Rep.two upd_same rfl (Rep.two ((e2.trans f3) _ _ hp) rfl rfl), by show 1 + (1 + (1 + (1 + (1 + 0)) + 0)) ≤ 400000; decide, fun H3 e3 => ?_⟩
    have e13 := (e2.trans f3).trans e3
    walk_at "go"
    refine ⟨p, f, rfl, e13 _ _ hp, Nat.lt_trans b1 (Nat.pow_lt_pow_right (by decide) (by decide)), Nat.lt_trans b2 (Nat.pow_lt_pow_right (by decide) (by decide)), ?_⟩
    rw [es]
    walk_at "go"
    rw [decide_eq_true (p := V.str z = V.str z) rfl]
    exact q _ (e1.trans e13)
theorem vi_law_0 : Vis (defScope s_law) "_law_script" := by first | exact Or.inl (by decide +kernel) | exact Or.inr (Or.inl (by decide +kernel)) | exact Or.inr (Or.inr (by decide +kernel))
theorem vi_law_1 : Vis (defScope s_law) "_law_k" := by first | exact Or.inl (by decide +kernel) | exact Or.inr (Or.inl (by decide +kernel)) | exact Or.inr (Or.inr (by decide +kernel))
theorem vi_law_2 : Vis (defScope s_law) "_law_box_here" := by first | exact Or.inl (by decide +kernel) | exact Or.inr (Or.inl (by decide +kernel)) | exact Or.inr (Or.inr (by decide +kernel))
theorem vi_law_3 : Vis (defScope s_law) "_law_wide" := by first | exact Or.inl (by decide +kernel) | exact Or.inr (Or.inl (by decide +kernel)) | exact Or.inr (Or.inr (by decide +kernel))
theorem vi_law_4 : Vis (defScope s_law) "_law_upper" := by first | exact Or.inl (by decide +kernel) | exact Or.inr (Or.inl (by decide +kernel)) | exact Or.inr (Or.inr (by decide +kernel))
theorem vi_law_5 : Vis (defScope s_law) "_law_lower" := by first | exact Or.inl (by decide +kernel) | exact Or.inr (Or.inl (by decide +kernel)) | exact Or.inr (Or.inr (by decide +kernel))
theorem vi_law_6 : Vis (defScope s_law) "_law_one" := by first | exact Or.inl (by decide +kernel) | exact Or.inr (Or.inl (by decide +kernel)) | exact Or.inr (Or.inr (by decide +kernel))
theorem vi_law_7 : Vis (defScope s_law) "_law_good" := by first | exact Or.inl (by decide +kernel) | exact Or.inr (Or.inl (by decide +kernel)) | exact Or.inr (Or.inr (by decide +kernel))
theorem vi_law_9 : Vis (defScope s_law) "_law_text" := by first | exact Or.inl (by decide +kernel) | exact Or.inr (Or.inl (by decide +kernel)) | exact Or.inr (Or.inr (by decide +kernel))
theorem vi_law_11 : Vis (defScope s_law) "_law_great" := by first | exact Or.inl (by decide +kernel) | exact Or.inr (Or.inl (by decide +kernel)) | exact Or.inr (Or.inr (by decide +kernel))
theorem lo_law_1 : Loc (defScope s_law) "_law_k" := by first | exact Or.inl (by decide +kernel) | exact Or.inr (by decide +kernel)
theorem lo_law_2 : Loc (defScope s_law) "_law_box_here" := by first | exact Or.inl (by decide +kernel) | exact Or.inr (by decide +kernel)
theorem lo_law_3 : Loc (defScope s_law) "_law_wide" := by first | exact Or.inl (by decide +kernel) | exact Or.inr (by decide +kernel)
theorem lo_law_6 : Loc (defScope s_law) "_law_one" := by first | exact Or.inl (by decide +kernel) | exact Or.inr (by decide +kernel)
theorem lo_law_7 : Loc (defScope s_law) "_law_good" := by first | exact Or.inl (by decide +kernel) | exact Or.inr (by decide +kernel)
theorem lo_law_8 : Loc (defScope s_law) "_law_turn" := by first | exact Or.inl (by decide +kernel) | exact Or.inr (by decide +kernel)
theorem lo_law_9 : Loc (defScope s_law) "_law_text" := by first | exact Or.inl (by decide +kernel) | exact Or.inr (by decide +kernel)
theorem lo_law_10 : Loc (defScope s_law) "_law_more" := by first | exact Or.inl (by decide +kernel) | exact Or.inr (by decide +kernel)
theorem lo_law_11 : Loc (defScope s_law) "_law_great" := by first | exact Or.inl (by decide +kernel) | exact Or.inr (by decide +kernel)
theorem ok_law (T : Txt K mg) : FnOk P w K mg base (L2.CX P w) 7 T.a_law T.d_law ["_law_script"] (spLaw K) := by
  refine T.F_law.okX sc_law (fun vs H Q E h => ?_) (fun cdv A outer s H vs Q E hr h => ?_)
  · obtain ⟨_, _, rfl, _⟩ := h
    rfl
  obtain ⟨scr, ns, rfl, hS, hl, q⟩ := h
  refine ⟨_, (pss_cons (ps_for (passes_of rfl) rfl (pi_range1 rfl T.z_range (pa_cons (pe_callB (uk_max2 rfl) rfl T.z_max boot_max (pa_cons pe_int (pa_cons (pe_callB (uk_min2 rfl) rfl T.z_min boot_min (pa_cons pe_int (pa_cons (pe_callB (show CallR _ (.builtin "len") (uLen K) from uk_len) rfl T.z_len boot_len (pa_cons (uv 0 (hv := vi_law_0)) pa_nil)) pa_nil))) pa_nil))) pa_nil)) (pg_name (i := 1) sc_law.nd rfl lo_law_1) (pss_cons (ps_set (i := 2) sc_law.nd rfl lo_law_2 (pe_callD (ok_law_box T) (hr.mono (by decide)) rfl T.m_law_box T.F_law_box.kp T.b_law_box .nil (fun σ => passAt (takes_of rfl rfl rfl rfl) σ) (pa_cons (uv 0 (hv := vi_law_0)) (pa_cons (uv 1 (hv := vi_law_1)) pa_nil))))
      (pss_cons (ps_set (i := 3) sc_law.nd rfl lo_law_3 (pe_ix (show IxR _ (uIx K) from ux_seq) (pe_lst (pa_cons pe_int (pa_cons pe_int (pa_cons (pe_op uo_pow pe_int pe_int) pa_nil)))) (pe_callD (ok_law_take T) (hr.mono (by decide)) rfl T.m_law_take T.F_law_take.kp T.b_law_take .nil (fun σ => passAt (takes_of rfl rfl rfl rfl) σ) (pa_cons (uv 2 (hv := vi_law_2)) (pa_cons pe_int pa_nil))) (fun _ _ => rfl)))
      (pss_cons (ps_par (i := 4) (j := 5) rfl sc_law.nd rfl rfl (by decide) rfl rfl (pa_cons (pe_callD (ok_law_take T) (hr.mono (by decide)) rfl T.m_law_take T.F_law_take.kp T.b_law_take .nil (fun σ => passAt (takes_of rfl rfl rfl rfl) σ) (pa_cons (uv 2 (hv := vi_law_2)) (pa_cons (uv 3 (hv := vi_law_3)) pa_nil))) (pa_cons (pe_op (show OpR _ (binaryOp .Add) (uAdd K) from uo_add) pe_int (pe_callD (ok_law_take T) (hr.mono (by decide)) rfl T.m_law_take T.F_law_take.kp T.b_law_take .nil (fun σ => passAt (takes_of rfl rfl rfl rfl) σ) (pa_cons (uv 2 (hv := vi_law_2)) (pa_cons (pe_ix (show IxR _ (uIx K) from ux_seq) (pe_lst (pa_cons pe_int (pa_cons (pe_op uo_sub (uv 3 (hv := vi_law_3)) pe_int) pa_nil))) (pe_callD (ok_law_take T) (hr.mono (by decide)) rfl T.m_law_take T.F_law_take.kp T.b_law_take .nil (fun σ => passAt (takes_of rfl rfl rfl rfl) σ) (pa_cons (uv 2 (hv := vi_law_2)) (pa_cons pe_int pa_nil))) (fun _ _ => rfl)) pa_nil)))) pa_nil)) rfl)
      (pss_cons (ps_set (i := 6) sc_law.nd rfl lo_law_6 (pe_callD (ok_law_lowest T) (hr.mono (by decide)) rfl T.m_law_lowest T.F_law_lowest.kp T.b_law_lowest .nil (fun σ => passAt (takes_of rfl rfl rfl rfl) σ) (pa_cons (pe_op uo_mul (uv 4 (hv := vi_law_4)) (pe_op uo_sub pe_int (pe_op uo_mul pe_int (pe_callD (ok_law_take T) (hr.mono (by decide)) rfl T.m_law_take T.F_law_take.kp T.b_law_take .nil (fun σ => passAt (takes_of rfl rfl rfl rfl) σ) (pa_cons (uv 2 (hv := vi_law_2)) (pa_cons pe_int pa_nil)))))) (pa_cons (uv 5 (hv := vi_law_5)) pa_nil))))
      (pss_cons (ps_set (i := 7) sc_law.nd rfl lo_law_7 (pe_op (show OpR _ (binaryOp .Add) (uAdd K) from uo_add) (pe_callTy uk_str rfl T.z_str boot_str (pa_cons (pe_ix (show IxR _ (uIx K) from ux_seq) (uv 6 (hv := vi_law_6)) pe_int (fun _ _ => rfl)) pa_nil)) (pe_op op_repS (pe_op (show OpR _ (binaryOp .Add) (uAdd K) from uo_add) pe_str (pe_callTy uk_str rfl T.z_str boot_str (pa_cons (pe_ix (show IxR _ (uIx K) from ux_seq) (uv 6 (hv := vi_law_6)) pe_int (fun _ _ => rfl)) pa_nil))) (pe_callTy uk_int rfl T.z_int boot_int (pa_cons (pe_cmpR uo_gt (pe_ix (show IxR _ (uIx K) from ux_seq) (uv 6 (hv := vi_law_6)) pe_int (fun _ _ => rfl)) pe_int (nomark _)) pa_nil)))))
      (pss_cons (ps_if (pt_cmpR op_ne (pe_callD (ok_show_fraction T) (hr.mono (by decide)) rfl T.m_show_fraction T.F_show_fraction.kp T.b_show_fraction .nil (fun σ => passAt (takes_of rfl rfl rfl rfl) σ) (pa_cons (uv 6 (hv := vi_law_6)) pa_nil)) (uv 7 (hv := vi_law_7)) (nomark _)) (pss_one (ps_ret pe_bl)) pss_nil)
      (pss_one (ps_for (passes_of rfl) rfl (pi_range1 rfl T.z_range (pa_cons pe_int pa_nil)) (pg_name (i := 8) sc_law.nd rfl lo_law_8) (pss_cons (ps_set (i := 9) sc_law.nd rfl lo_law_9 (uv 7 (hv := vi_law_7)))
      (pss_cons (ps_for (passes_of rfl) rfl (pi_range1 rfl T.z_range (pa_cons (pe_op (show OpR _ (binaryOp .Add) (uAdd K) from uo_add) pe_int (pe_callD (ok_law_take T) (hr.mono (by decide)) rfl T.m_law_take T.F_law_take.kp T.b_law_take .nil (fun σ => passAt (takes_of rfl rfl rfl rfl) σ) (pa_cons (uv 2 (hv := vi_law_2)) (pa_cons pe_int pa_nil)))) pa_nil)) (pg_name (i := 10) sc_law.nd rfl lo_law_10) (pss_one (ps_set (i := 9) sc_law.nd rfl lo_law_9 (pe_callD (ok_law_spoilt T) (hr.mono (by decide)) rfl T.m_law_spoilt T.F_law_spoilt.kp T.b_law_spoilt .nil (fun σ => passAt (takes_of rfl rfl rfl rfl) σ) (pa_cons (uv 2 (hv := vi_law_2)) (pa_cons (uv 9 (hv := vi_law_9)) pa_nil))))))
      (pss_one (ps_if (PW.pt (pw_or (pt_not (utK K (pe_callD (ok_law_right T) (hr.mono (by decide)) rfl T.m_law_right T.F_law_right.kp T.b_law_right .nil (fun σ => passAt (takes_of rfl rfl rfl rfl) σ) (pa_cons (uv 7 (hv := vi_law_7)) pa_nil)))) (pw_or1 (pt_not (utK K (pe_callD (ok_law_right T) (hr.mono (by decide)) rfl T.m_law_right T.F_law_right.kp T.b_law_right .nil (fun σ => passAt (takes_of rfl rfl rfl rfl) σ) (pa_cons (uv 9 (hv := vi_law_9)) pa_nil))))))) (pss_one (ps_ret pe_bl)) pss_nil)))))))))))))
      (pss_cons (ps_set (i := 11) sc_law.nd rfl lo_law_11 (pe_op (show OpR _ (binaryOp .Add) (uAdd K) from uo_add) (pe_op (show OpR _ (binaryOp .Add) (uAdd K) from uo_add) pe_str (pe_op op_repS pe_str (pe_op (show OpR _ (binaryOp .Add) (uAdd K) from uo_add) pe_int (pe_callD (ok_law_take T) (hr.mono (by decide)) rfl T.m_law_take T.F_law_take.kp T.b_law_take .nil (fun σ => passAt (takes_of rfl rfl rfl rfl) σ) (pa_cons (pe_callD (ok_law_box T) (hr.mono (by decide)) rfl T.m_law_box T.F_law_box.kp T.b_law_box .nil (fun σ => passAt (takes_of rfl rfl rfl rfl) σ) (pa_cons (uv 0 (hv := vi_law_0)) (pa_cons pe_int pa_nil))) (pa_cons pe_int pa_nil)))))) pe_str))
      (pss_cons (ps_if (PW.pt (pw_or (pt_cmpR op_ne (pe_callD (ok_show_fraction T) (hr.mono (by decide)) rfl T.m_show_fraction T.F_show_fraction.kp T.b_show_fraction .nil (fun σ => passAt (takes_of rfl rfl rfl rfl) σ) (pa_cons (pe_tup (pa_cons (pe_callTy (uk_intW T.lim) rfl T.z_int boot_int (pa_cons (uv 11 (hv := vi_law_11)) pa_nil)) (pa_cons pe_int pa_nil))) pa_nil)) (pe_op (show OpR _ (binaryOp .Add) (uAdd K) from uo_add) (uv 11 (hv := vi_law_11)) pe_str) (nomark _)) (pw_or1 (pt_cmpR op_ne (pe_callD (ok_show_fraction T) (hr.mono (by decide)) rfl T.m_show_fraction T.F_show_fraction.kp T.b_show_fraction .nil (fun σ => passAt (takes_of rfl rfl rfl rfl) σ) (pa_cons (pe_tup (pa_cons (pe_op uo_sub pe_int (pe_callTy (uk_intW T.lim) rfl T.z_int boot_int (pa_cons (uv 11 (hv := vi_law_11)) pa_nil))) (pa_cons pe_int pa_nil))) pa_nil)) (pe_op (show OpR _ (binaryOp .Add) (uAdd K) from uo_add) pe_str (uv 11 (hv := vi_law_11))) (nomark _))))) (pss_one (ps_ret pe_bl)) pss_nil)
      (pss_one (ps_ret (pe_and (pe_callD (ok_law_right T) (hr.mono (by decide)) rfl T.m_law_right T.F_law_right.kp T.b_law_right .nil (fun σ => passAt (takes_of rfl rfl rfl rfl) σ) (pa_cons pe_str pa_nil)) (pe_one (pe_callD (ok_law_right T) (hr.mono (by decide)) rfl T.m_law_right T.F_law_right.kp T.b_law_right .nil (fun σ => passAt (takes_of rfl rfl rfl rfl) σ) (pa_cons pe_str pa_nil))))))))), ?_⟩
  walk_at "go"
  have hln : (ns.map V.int).length ≤ 63 := by rw [List.length_map]; exact hl
  have hn : ∃ n : Nat, max 2 (min 5 (((ns.map V.int).length : Nat) : Int)) = (n : Int) ∧ 2 ≤ n ∧ n ≤ 5 := ⟨(max 2 (min 5 (((ns.map V.int).length : Nat) : Int))).toNat, by omega, by omega, by omega⟩
  obtain ⟨n, en, n2, n6⟩ := hn
  rw [en]
  refine ⟨_, rfl, by omega, by omega, ?_⟩
  rw [Int.toNat_natCast]
  refine for_it walk_range (fun i σ H1 => (∃ o1 o2 o3 o4 o5 o6 o7 o8 o9 o10, σ = [some (.ref scr), o1, o2, o3, o4, o5, o6, o7, o8, o9, o10, none]) ∧ Ex H H1) ⟨⟨_, _, _, _, _, _, _, _, _, _, rfl⟩, Ex.refl _⟩ (fun _ _ _ _ _ => trivial) ?_ ?_
  · rintro i x σ H1 H1' hi ⟨⟨o1, o2, o3, o4, o5, o6, o7, o8, o9, o10, rfl⟩, e1⟩ ⟨rfl, rfl⟩
    walk_at "go"
    refine ⟨scr, ns, i, by show [V.ref scr, V.int (0 + (i : Int))] ++ [] = _; rw [Int.zero_add]; rfl, e1.seqL hS, hl, fun p H2 hp e2 hb2 => ?_⟩
    walk_at "go"
    refine g_new fun l1 hl1 => ?_
    have f1 := Ex.new (o := .lst [.int 10, .int 1000, .int (10 ^ (30 : Int).toNat)]) hl1
    have a1 := new_at (o := .lst [.int 10, .int 1000, .int (10 ^ (30 : Int).toNat)]) hl1
    have nl1 := hb2.ne hl1
    walk_at "go"
    refine ⟨p, 3, rfl, hb2.ex f1, by decide, by decide, fun d1 H3 d10 d11 b3 hb3 => ?_⟩
    walk_at "go"
    obtain ⟨W, eW, w1, w2, w3⟩ : ∃ W : Int, atI [V.int 10, V.int 1000, V.int (10 ^ (30 : Int).toNat)] d1 = some (.int W) ∧ 10 ≤ W ∧ Bits 101 W ∧ W ≤ 10 ^ 30 := by
      have z : d1 = 0 ∨ d1 = 1 ∨ d1 = 2 := by omega
      rcases z with rfl | rfl | rfl
      · exact ⟨_, rfl, by decide, by decide, by decide⟩
      · exact ⟨_, rfl, by decide, by decide, by decide⟩
      · exact ⟨_, rfl, by decide, by decide, by decide⟩
    refine g_ixL (b3 _ _ nl1 a1) eW ?_
    have b13 : But p H1' H3 := (e2.but p).trans ((f1.but p).trans b3)
    clear eW a1 f1 hl1 b3
    walk_at "go"
    refine ⟨p, W, rfl, hb3, by omega, Nat.lt_of_lt_of_le (Bits.log w2) (by decide), fun u H4 u0 u1 b4 hb4 => ?_⟩
    walk_at "go"
    refine g_new fun l2 hl2 => ?_
    have f2 := Ex.new (o := .lst [.int 1, .int (W - 1)]) hl2
    have a2 := new_at (o := .lst [.int 1, .int (W - 1)]) hl2
    have nl2 := hb4.ne hl2
    walk_at "go"
    refine ⟨p, 2, rfl, hb4.ex f2, by decide, by decide, fun d2 H5 d20 d21 b5 hb5 => ?_⟩
    walk_at "go"
    obtain ⟨M, eM, m1, m2⟩ : ∃ M : Int, atI [V.int 1, V.int (W - 1)] d2 = some (.int M) ∧ 1 ≤ M ∧ M ≤ W := by
      have z : d2 = 0 ∨ d2 = 1 := by omega
      rcases z with rfl | rfl
      · exact ⟨_, rfl, by decide, by omega⟩
      · exact ⟨_, rfl, by omega, by omega⟩
    refine g_ixL (b5 _ _ nl2 a2) eM ?_
    have bM : Bits 101 M := Nat.lt_of_le_of_lt (by omega) w2
    have bu : Bits 101 u := Nat.lt_of_le_of_lt (by omega) w2
    have b15 : But p H1' H5 := b13.trans (b4.trans ((f2.but p).trans b5))
    clear eM a2 f2 hl2 b4 b5 hb4 hb3 hb2
    walk_at "go"
    refine ⟨p, M, rfl, hb5, by omega, Nat.lt_of_lt_of_le (Bits.log bM) (by decide), fun l H6 l0 l1' b6 hb6 => ?_⟩
    walk_at "go"
    refine ⟨p, 2, rfl, hb6, by decide, by decide, fun s2 H7 s0 s1 b7 hb7 => ?_⟩
    have cm : CMm u (1 - 2 * s2) := bu.cm (show Bits 2 (1 - 2 * s2) from by unfold Bits; omega)
    have b17 : But p H1' H7 := b15.trans (b6.trans b7)
    have bx : Bits 110 (u * (1 - 2 * s2)) := (bu.mul (show Bits 2 (1 - 2 * s2) from by unfold Bits; omega)).le (by decide)
    have bl : Bits 110 (1 + l) := Nat.lt_of_le_of_lt (by omega : (1 + l).natAbs ≤ M.natAbs) (bM.le (by decide))
    obtain ⟨x, ex⟩ : ∃ x, x = u * (1 - 2 * s2) := ⟨_, rfl⟩
    obtain ⟨y, ey⟩ : ∃ y, y = 1 + l := ⟨_, rfl⟩
    clear b6 b7 hb6 hb5 b13 b15
    walk_at "go"
    rw [← ex, ← ey]
    rw [← ex] at bx
    rw [← ey] at bl
    have y0 : 0 < y := by omega
    refine ⟨x, y, rfl, bx.le (by decide), bl.le (by decide), y0, fun qa hq => ?_⟩
    have fq := Ex.new (o := .tup [.int (fru x y), .int (frl x y)]) hq
    have aq := new_at (o := .tup [.int (fru x y), .int (frl x y)]) hq
    have nz : y ≠ 0 := by omega
    have f1b := fru_bits nz bx
    have f2b := frl_bits (u := x) nz bl
    have flow : LowF (lowF x y) := lowF_low y0
    obtain ⟨f, ef⟩ : ∃ f, f = lowF x y := ⟨_, rfl⟩
    have ef1 : fru x y = f.1 := by rw [ef]; rfl
    have ef2 : frl x y = f.2 := by rw [ef]; rfl
    rw [← ef] at flow
    rw [ef1, ef2] at aq fq ⊢
    rw [ef1] at f1b
    rw [ef2] at f2b
    have f2c : (frl x y).natAbs ≤ y.natAbs := fdiv_le (fpt_ne nz) (fpt_l x y)
    rw [ef2] at f2c
    have f2d : (numT f.2).length ≤ 32 := numT_len (k := 31) (by decide) (Nat.lt_of_le_of_lt (show f.2.natAbs ≤ 10 ^ 30 by omega) (by decide))
    have hb8 := hb7.ex fq
    have b18 := b17.trans (fq.but p)
    clear fq hq hb7 b17
    revert aq hb8 b18
    generalize upd H7 qa (.tup [.int f.1, .int f.2]) = H8
    intro aq hb8 b18
    have l1 := numT_bits f1b
    have l2 := numT_bits f2b
    walk_at "go"
    refine g_str (log_of f1b (by decide) (by decide)) ?_
    walk_at "go"
    refine g_str (log_of f2b (by decide) (by decide)) ?_
    have ls := app_len "/" (numT f.2)
    have ls1 : ("/" : Str).length = 1 := rfl
    walk_at "go"
    refine g_addS (by omega) ?_
    walk_at "go"
    refine g_repS (by unfold b2z; split <;> decide) (by unfold b2z; split <;> decide) (by omega) ?_
    have lr := repS_len ("/" ++ numT f.2) (b2z (decide (1 < f.2)))
    have e : numT f.1 ++ repS ("/" ++ numT f.2) (b2z (decide (1 < f.2))) = showFx f := by
      by_cases c : f.2 = 1
      · rw [decide_eq_false (by omega)]
        have : showFx f = numT f.1 := if_pos c
        rw [this]
        refine str_ext ?_
        rw [app_list]
        exact List.append_nil _
      · have := flow.1
        rw [decide_eq_true (by omega)]
        have : showFx f = numT f.1 ++ "/" ++ numT f.2 := if_neg c
        rw [this]
        refine str_ext ?_
        rw [app_list, app_list, app_list]
        show _ ++ ([("/" ++ numT f.2).cps.toList].flatten) = _
        rw [List.flatten_cons, List.flatten_nil, List.append_nil, app_list, List.append_assoc]
    have lb : (b2z (decide (1 < f.2))).toNat ≤ 1 := by unfold b2z; split <;> decide
    have lr2 : (repS ("/" ++ numT f.2) (b2z (decide (1 < f.2)))).length ≤ 200 := by
      rw [lr]
      have := Nat.mul_le_mul_right (("/" ++ numT f.2).length) lb
      omega
    refine g_addS (by omega) ?_
    have lg := app_len (numT f.1) (repS ("/" ++ numT f.2) (b2z (decide (1 < f.2))))
    rw [e] at lg ⊢
    have lgood : (showFx f).length ≤ 400 := by omega
    walk_at "go"
    refine ⟨qa, f, rfl, aq, bits_pow (f1b.le (by decide)), bits_pow (f2b.le (by decide)), ?_⟩
    walk_at "go"
    refine i_neS (fun c => absurd rfl c) fun _ => ?_
    generalize showFx f = good at lgood
    clear lr lr2 e lg ls
    walk_at "go"
    refine ⟨_, rfl, by omega, by omega, ?_⟩
    refine for_it walk_range (fun k σ H9 => (∃ o1 o8 o9 o10, σ = [some (.ref scr), o1, some (.ref p), some (.int W), some (.int u), some (.int y), some (.ref qa), some (.str good), o8, o9, o10, none]) ∧ But p H1' H9 ∧ Box H9 p) ⟨⟨_, _, _, _, rfl⟩, b18, hb8⟩ (fun _ _ _ _ _ => trivial) ?_ ?_
    · rintro k xx σ H9 H9' hk ⟨⟨o1, o8, o9, o10, rfl⟩, b9, hb9⟩ ⟨rfl, rfl⟩
      walk_at "go"
      refine ⟨p, 2, rfl, hb9, by decide, by decide, fun m HA m0 m1' bA hbA => ?_⟩
      obtain ⟨m, rfl⟩ := Int.eq_ofNat_of_zero_le m0
      walk_at "go"
      refine ⟨_, rfl, by omega, by omega, ?_⟩
      refine for_it walk_range (fun k2 σ HB => (∃ o8 o10 text, σ = [some (.ref scr), o1, some (.ref p), some (.int W), some (.int u), some (.int y), some (.ref qa), some (.str good), o8, some (.str text), o10, none] ∧ text.length ≤ 400 + 7000 * k2) ∧ But p H1' HB ∧ Box HB p) ⟨⟨_, _, good, rfl, by omega⟩, b9.trans bA, hbA⟩ (fun _ _ _ _ _ => trivial) ?_ ?_
      · rintro k2 xx σ HB HB' hk2 ⟨⟨o8, o10, text, rfl, lt⟩, bB, hbB⟩ ⟨rfl, rfl⟩
        have : k2 < 2 := by omega
        walk_at "go"
        refine ⟨p, text, rfl, hbB, by omega, fun y2 HC ly bC hbC => ?_⟩
        exact ⟨⟨_, _, y2, rfl, by omega⟩, bB.trans bC, hbC⟩
      rintro σ HB ⟨⟨o8, o10, text, rfl, lt⟩, bB, hbB⟩
      have lm : (1 + (m : Int)).toNat ≤ 2 := by omega
      walk_at "go"
      refine ⟨good, rfl, by omega, fun HC eC => ?_⟩
      walk_at "go"
      refine ⟨text, rfl, by omega, fun HD eD => ?_⟩
      walk_at "go"
      exact ⟨⟨_, _, _, _, rfl⟩, bB.trans ((eC.trans eD).but p), hbB.ex (eC.trans eD)⟩
    · rintro σ H9 ⟨⟨o1, o8, o9, o10, rfl⟩, b9, hb9⟩
      exact ⟨⟨_, _, _, _, _, _, _, _, _, _, rfl⟩, Ex.of_but ((e1.but p).trans b9) (e1.free hp)⟩
  · rintro σ H1 ⟨⟨o1, o2, o3, o4, o5, o6, o7, o8, o9, o10, rfl⟩, e1⟩
    walk_at "go"
    refine ⟨scr, ns, 0, rfl, e1.seqL hS, hl, fun p H2 hp e2 hb2 => ?_⟩
    walk_at "go"
    refine ⟨p, 3970, rfl, hb2, by decide, by decide, fun d H3 d0 d1 b3 hb3 => ?_⟩
    obtain ⟨d, rfl⟩ := Int.eq_ofNat_of_zero_le d0
    have z0 : ("0" : Str).length = 1 := rfl
    have z1 : ("1" : Str).length = 1 := rfl
    have z7 : ("7" : Str).length = 1 := rfl
    have k0 := repS_len "0" (29 + (d : Int))
    have k1 := app_len "1" (repS "0" (29 + (d : Int)))
    have k2 := app_len ("1" ++ repS "0" (29 + (d : Int))) "7"
    rw [z0, Nat.mul_one] at k0
    have e13 : Ex H H3 := e1.trans (Ex.of_but ((e2.but p).trans b3) hp)
    walk_at "go"
    refine g_repS (by omega) (by omega) (by decide) ?_
    refine g_addS (by omega) ?_
    walk_at "go"
    refine g_addS (by omega) ?_
    obtain ⟨gt, egt⟩ : ∃ gt, gt = "1" ++ repS "0" (29 + (d : Int)) ++ "7" := ⟨_, rfl⟩
    have lg : gt.length ≤ 4000 := by rw [egt]; omega
    have gl : gt.cps.toList = 49 :: (List.replicate (29 + d) 48 ++ [55]) := by
      rw [egt, app_list, app_list]
      have r0 : (repS "0" (29 + (d : Int))).cps.toList = List.replicate (29 + d) 48 := by
        show ((List.replicate ((29 + (d : Int))).toNat [48]).flatten.toArray).toList = _
        rw [show ((29 + (d : Int))).toNat = 29 + d by omega]
        exact rep_flat 48 _
      rw [r0]
      rfl
    have gd : NumText.AllDigits gt.cps.toList := fun c hc => by
      rw [gl] at hc
      rcases List.mem_cons.1 hc with rfl | hc
      · exact ⟨by decide, by decide⟩
      · rcases List.mem_append.1 hc with hc | hc
        · rw [(List.mem_replicate.1 hc).2]
          exact ⟨by decide, by decide⟩
        · rw [List.mem_singleton.1 hc]
          exact ⟨by decide, by decide⟩
    have gne : gt.cps.toList ≠ [] := by rw [gl]; exact List.cons_ne_nil _ _
    have g48 : gt.cps.toList.headD 0 ≠ 48 := by rw [gl]; show (49 : Nat) ≠ 48; decide
    have ig := intText_digits gd gne (by omega)
    have ig2 : intText? gt = some (intT gt) ∧ intT gt = ((NumText.digitsVal gt.cps.toList : Nat) : Int) := by
      unfold intT
      rw [ig]
      exact ⟨rfl, rfl⟩
    have gb : (NumText.digitsVal gt.cps.toList) < 10 ^ 4300 := Nat.lt_of_lt_of_le (digits_lt gd) (Nat.pow_le_pow_right (by decide) (by rw [← str_len]; omega))
    have gp : 0 < NumText.digitsVal gt.cps.toList := digits_pos gd gne g48
    have gnum : numT ((NumText.digitsVal gt.cps.toList : Nat) : Int) = gt := str_ext (by rw [numT_tl]; exact num_digits gd gne (.inr g48))
    rw [← egt]
    obtain ⟨ig3, ig4⟩ := ig2
    rw [ig4] at ig3
    generalize NumText.digitsVal gt.cps.toList = G at ig3 ig4 gb gp gnum
    clear ig gd gne g48 gl egt k0 k1 k2 b3 hb3 hb2
    walk_at "go"
    refine ⟨by rw [ig4]; exact ig3, by omega, ?_⟩
    rw [ig4]
    walk_at "go"
    refine g_new fun q1 hq1 => ?_
    have f1 := Ex.new (o := .tup [.int (G : Nat), .int 3]) hq1
    walk_at "go"
    refine ⟨q1, ((G : Int), 3), rfl, upd_same, by show ((G : Nat) : Int).natAbs < _; rw [Int.natAbs_natCast]; exact gb, bits_pow (show Bits 2000 (3 : Int) from (show Bits 3 (3 : Int) from by decide).le (by decide)), ?_⟩
    have es : showFx ((G : Int), 3) = gt ++ "/3" := by
      show (if (3 : Int) = 1 then _ else numT (G : Int) ++ "/" ++ numT 3) = _
      rw [if_neg (by decide), gnum]
      have e3 : numT 3 = "3" := by decide +kernel
      rw [e3]
      refine str_ext ?_
      rw [app_list, app_list, app_list, List.append_assoc]
      rfl
    rw [es]
    have z3 : ("/3" : Str).length = 2 := rfl
    have k3 := app_len gt "/3"
    walk_at "go"
    refine g_addS (by omega) ?_
    walk_at "go"
    refine i_neS (fun c => absurd rfl c) fun _ => ?_
    walk_at "go"
    refine ⟨by rw [ig4]; exact ig3, by omega, ?_⟩
    rw [ig4]
    walk_at "go"
    refine g_new fun q2 hq2 => ?_
    have f2 := Ex.new (o := .tup [.int (0 - (G : Int)), .int 1]) hq2
    walk_at "go"
    refine ⟨q2, (0 - (G : Int), 1), rfl, upd_same, by show (0 - ((G : Nat) : Int)).natAbs < _; rw [show (0 - ((G : Nat) : Int)).natAbs = G by omega]; exact gb, bits_pow (show Bits 2000 (1 : Int) from (show Bits 3 (1 : Int) from by decide).le (by decide)), ?_⟩
    have es2 : showFx (0 - (G : Int), 1) = "-" ++ gt := by
      show (if (1 : Int) = 1 then numT (0 - (G : Int)) else _) = _
      rw [if_pos rfl, num_neg (by omega), gnum]
    rw [es2]
    have zm : ("-" : Str).length = 1 := rfl
    walk_at "go"
    refine g_addS (by omega) ?_
    walk_at "go"
    refine i_neS (fun c => absurd rfl c) fun _ => ?_
    walk_at "go"
    refine ⟨"0", rfl, by decide, fun H5 e5 => ?_⟩
    walk_at "go"
    exact ⟨"", rfl, by decide, fun H6 e6 => q _⟩
end
theorem mk_txt {K : PySem.W.Frag} {h : Heap} {mg : Str → Option Value} (X : K.In h) (G : h.Ns mainGlobals mg)
    {C_BoughError C_NoText fI_NoText C_NoWood fI_NoWood C_NoTree fI_NoTree C_NoWord fI_NoWord C_TooLong fI_TooLong C_NoReader fI_NoReader C_NoFit fI_NoFit C_NoPrinter fI_NoPrinter C_NoTurner fI_NoTurner C_TooWide fI_TooWide C_NoRow fI_NoRow C_Nought fI_Nought C_NotKept fI_NotKept C_NoBox fI_NoBox f_common_part f_fraction_of dt_fraction_of f_show_fraction f_is_figures f_read_fraction f_law_box f_law_take f_law_alike f_law_shared f_law_lowest f_law_signs f_law_figures f_law_in f_law_spoilt f_law_heard f_law_right f_law : Addr}
    {ocI_NoText kVI_NoText dcI_NoText pmI_NoText cdI_NoText ctI_NoText ocI_NoWood kVI_NoWood dcI_NoWood pmI_NoWood cdI_NoWood ctI_NoWood ocI_NoTree kVI_NoTree dcI_NoTree pmI_NoTree cdI_NoTree ctI_NoTree ocI_NoWord kVI_NoWord dcI_NoWord pmI_NoWord cdI_NoWord ctI_NoWord ocI_TooLong kVI_TooLong dcI_TooLong pmI_TooLong cdI_TooLong ctI_TooLong ocI_NoReader kVI_NoReader dcI_NoReader pmI_NoReader cdI_NoReader ctI_NoReader ocI_NoFit kVI_NoFit dcI_NoFit pmI_NoFit cdI_NoFit ctI_NoFit ocI_NoPrinter kVI_NoPrinter dcI_NoPrinter pmI_NoPrinter cdI_NoPrinter ctI_NoPrinter ocI_NoTurner kVI_NoTurner dcI_NoTurner pmI_NoTurner cdI_NoTurner ctI_NoTurner ocI_TooWide kVI_TooWide dcI_TooWide pmI_TooWide cdI_TooWide ctI_TooWide ocI_NoRow kVI_NoRow dcI_NoRow pmI_NoRow cdI_NoRow ctI_NoRow ocI_Nought kVI_Nought dcI_Nought pmI_Nought cdI_Nought ctI_Nought ocI_NotKept kVI_NotKept dcI_NotKept pmI_NotKept cdI_NotKept ctI_NotKept ocI_NoBox kVI_NoBox dcI_NoBox pmI_NoBox cdI_NoBox ctI_NoBox oc_common_part kV_common_part dc_common_part pm_common_part cd_common_part ct_common_part oc_fraction_of kV_fraction_of dc_fraction_of pm_fraction_of cd_fraction_of ct_fraction_of do_fraction_of oc_show_fraction kV_show_fraction dc_show_fraction pm_show_fraction cd_show_fraction ct_show_fraction oc_is_figures kV_is_figures dc_is_figures pm_is_figures cd_is_figures ct_is_figures oc_read_fraction kV_read_fraction dc_read_fraction pm_read_fraction cd_read_fraction ct_read_fraction oc_law_box kV_law_box dc_law_box pm_law_box cd_law_box ct_law_box oc_law_take kV_law_take dc_law_take pm_law_take cd_law_take ct_law_take oc_law_alike kV_law_alike dc_law_alike pm_law_alike cd_law_alike ct_law_alike oc_law_shared kV_law_shared dc_law_shared pm_law_shared cd_law_shared ct_law_shared oc_law_lowest kV_law_lowest dc_law_lowest pm_law_lowest cd_law_lowest ct_law_lowest oc_law_signs kV_law_signs dc_law_signs pm_law_signs cd_law_signs ct_law_signs oc_law_figures kV_law_figures dc_law_figures pm_law_figures cd_law_figures ct_law_figures oc_law_in kV_law_in dc_law_in pm_law_in cd_law_in ct_law_in oc_law_spoilt kV_law_spoilt dc_law_spoilt pm_law_spoilt cd_law_spoilt ct_law_spoilt oc_law_heard kV_law_heard dc_law_heard pm_law_heard cd_law_heard ct_law_heard oc_law_right kV_law_right dc_law_right pm_law_right cd_law_right ct_law_right oc_law kV_law dc_law pm_law cd_law ct_law : Value}
    {odI_NoText anI_NoText odI_NoWood anI_NoWood odI_NoTree anI_NoTree odI_NoWord anI_NoWord odI_TooLong anI_TooLong odI_NoReader anI_NoReader odI_NoFit anI_NoFit odI_NoPrinter anI_NoPrinter odI_NoTurner anI_NoTurner odI_TooWide anI_TooWide odI_NoRow anI_NoRow odI_Nought anI_Nought odI_NotKept anI_NotKept odI_NoBox anI_NoBox od_common_part an_common_part od_fraction_of an_fraction_of dd_fraction_of od_show_fraction an_show_fraction od_is_figures an_is_figures od_read_fraction an_read_fraction od_law_box an_law_box od_law_take an_law_take od_law_alike an_law_alike od_law_shared an_law_shared od_law_lowest an_law_lowest od_law_signs an_law_signs od_law_figures an_law_figures od_law_in an_law_in od_law_spoilt an_law_spoilt od_law_heard an_law_heard od_law_right an_law_right od_law an_law : Option Addr}
    {slI_NoText slI_NoWood slI_NoTree slI_NoWord slI_TooLong slI_NoReader slI_NoFit slI_NoPrinter slI_NoTurner slI_TooWide slI_NoRow slI_Nought slI_NotKept slI_NoBox sl_common_part sl_fraction_of ds_fraction_of sl_show_fraction sl_is_figures sl_read_fraction sl_law_box sl_law_take sl_law_alike sl_law_shared sl_law_lowest sl_law_signs sl_law_figures sl_law_in sl_law_spoilt sl_law_heard sl_law_right sl_law : Array (Option Value)}
    {tk_FIGURES tk_MOST_FIGURES dk_fraction_of0 : Tok}
    {nm_BoughError qn_BoughError : Str} {Nn_BoughError : Addr} {bs_BoughError : List Value} {sn_BoughError : List Str} {sub_BoughError : List Value} {ab_BoughError : Bool} {col_BoughError : Option Bool} {dd_BoughError : Option Addr} {m0_BoughError m1_BoughError m2_BoughError m3_BoughError m5_BoughError : Option Value}
    {nm_NoText qn_NoText : Str} {Nn_NoText : Addr} {bs_NoText : List Value} {sn_NoText : List Str} {sub_NoText : List Value} {ab_NoText : Bool} {col_NoText : Option Bool} {dd_NoText : Option Addr} {m0_NoText m1_NoText m2_NoText m3_NoText m5_NoText : Option Value}
    {nm_NoWood qn_NoWood : Str} {Nn_NoWood : Addr} {bs_NoWood : List Value} {sn_NoWood : List Str} {sub_NoWood : List Value} {ab_NoWood : Bool} {col_NoWood : Option Bool} {dd_NoWood : Option Addr} {m0_NoWood m1_NoWood m2_NoWood m3_NoWood m5_NoWood : Option Value}
    {nm_NoTree qn_NoTree : Str} {Nn_NoTree : Addr} {bs_NoTree : List Value} {sn_NoTree : List Str} {sub_NoTree : List Value} {ab_NoTree : Bool} {col_NoTree : Option Bool} {dd_NoTree : Option Addr} {m0_NoTree m1_NoTree m2_NoTree m3_NoTree m5_NoTree : Option Value}
    {nm_NoWord qn_NoWord : Str} {Nn_NoWord : Addr} {bs_NoWord : List Value} {sn_NoWord : List Str} {sub_NoWord : List Value} {ab_NoWord : Bool} {col_NoWord : Option Bool} {dd_NoWord : Option Addr} {m0_NoWord m1_NoWord m2_NoWord m3_NoWord m5_NoWord : Option Value}
    {nm_TooLong qn_TooLong : Str} {Nn_TooLong : Addr} {bs_TooLong : List Value} {sn_TooLong : List Str} {sub_TooLong : List Value} {ab_TooLong : Bool} {col_TooLong : Option Bool} {dd_TooLong : Option Addr} {m0_TooLong m1_TooLong m2_TooLong m3_TooLong m5_TooLong : Option Value}
    {nm_NoReader qn_NoReader : Str} {Nn_NoReader : Addr} {bs_NoReader : List Value} {sn_NoReader : List Str} {sub_NoReader : List Value} {ab_NoReader : Bool} {col_NoReader : Option Bool} {dd_NoReader : Option Addr} {m0_NoReader m1_NoReader m2_NoReader m3_NoReader m5_NoReader : Option Value}
    {nm_NoFit qn_NoFit : Str} {Nn_NoFit : Addr} {bs_NoFit : List Value} {sn_NoFit : List Str} {sub_NoFit : List Value} {ab_NoFit : Bool} {col_NoFit : Option Bool} {dd_NoFit : Option Addr} {m0_NoFit m1_NoFit m2_NoFit m3_NoFit m5_NoFit : Option Value}
    {nm_NoPrinter qn_NoPrinter : Str} {Nn_NoPrinter : Addr} {bs_NoPrinter : List Value} {sn_NoPrinter : List Str} {sub_NoPrinter : List Value} {ab_NoPrinter : Bool} {col_NoPrinter : Option Bool} {dd_NoPrinter : Option Addr} {m0_NoPrinter m1_NoPrinter m2_NoPrinter m3_NoPrinter m5_NoPrinter : Option Value}
    {nm_NoTurner qn_NoTurner : Str} {Nn_NoTurner : Addr} {bs_NoTurner : List Value} {sn_NoTurner : List Str} {sub_NoTurner : List Value} {ab_NoTurner : Bool} {col_NoTurner : Option Bool} {dd_NoTurner : Option Addr} {m0_NoTurner m1_NoTurner m2_NoTurner m3_NoTurner m5_NoTurner : Option Value}
    {nm_TooWide qn_TooWide : Str} {Nn_TooWide : Addr} {bs_TooWide : List Value} {sn_TooWide : List Str} {sub_TooWide : List Value} {ab_TooWide : Bool} {col_TooWide : Option Bool} {dd_TooWide : Option Addr} {m0_TooWide m1_TooWide m2_TooWide m3_TooWide m5_TooWide : Option Value}
    {nm_NoRow qn_NoRow : Str} {Nn_NoRow : Addr} {bs_NoRow : List Value} {sn_NoRow : List Str} {sub_NoRow : List Value} {ab_NoRow : Bool} {col_NoRow : Option Bool} {dd_NoRow : Option Addr} {m0_NoRow m1_NoRow m2_NoRow m3_NoRow m5_NoRow : Option Value}
    {nm_Nought qn_Nought : Str} {Nn_Nought : Addr} {bs_Nought : List Value} {sn_Nought : List Str} {sub_Nought : List Value} {ab_Nought : Bool} {col_Nought : Option Bool} {dd_Nought : Option Addr} {m0_Nought m1_Nought m2_Nought m3_Nought m5_Nought : Option Value}
    {esS : Array PySem.DictEntry} {epS : Nat} {ocS : Value} {odS : Option Addr} {slS : Array (Option Value)}
    {dn_fraction_of : Nat}
    (ac_BoughError : PySem.W.nsIn K mainGlobals "BoughError" = some (some (.ref C_BoughError)))
    (xl_BoughError : K.lookup C_BoughError = some (excClassObj nm_BoughError qn_BoughError C_BoughError Nn_BoughError bs_BoughError [.type "ValueError", .type "Exception", .type "BaseException", .type "object"] true sn_BoughError sub_BoughError ab_BoughError col_BoughError dd_BoughError m0_BoughError m1_BoughError m2_BoughError m3_BoughError m5_BoughError "ValueError.__new__"))
    (xe_BoughError : PySem.W.subIn K (.ref C_BoughError) (.type "BaseException") = some true)
    (xt_BoughError : PySem.W.typeIn K (.ref C_BoughError) = some (.type "type"))
    (xk_BoughError : PySem.W.keepIn K (.ref C_BoughError) = true)
    (xi_BoughError : PySem.W.isClsIn K C_BoughError = true)
    (xs_BoughError : PySem.W.subIn K (.ref C_BoughError) (.ref C_BoughError) = some true)
    (g1_BoughError : PySem.W.findIn K (.ref C_BoughError) "__getattribute__" = some (some (.builtin "BaseException.__getattribute__")))
    (g2_BoughError : PySem.W.findIn K (.ref C_BoughError) "__getattr__" = some none)
    (g3_BoughError : PySem.W.hasDictIn K C_BoughError = true)
    (g4_BoughError : PySem.W.findIn K (.ref C_BoughError) "__class__" = some (some (.builtin "object.__class__")))
    (g5_BoughError : PySem.W.specialIn K (.builtin "object.__class__") "__get__" = some (some (.builtin "getset_descriptor.__get__")))
    (g6_BoughError : PySem.W.takesIn K (.builtin "object.__class__") = some true)
    (g7_BoughError : PySem.W.mroIn K C_BoughError (.type "object") = some true)
    (h1_BoughError : PySem.W.specialIn K (.ref C_BoughError) "__getattribute__" = some (some (.builtin "type.__getattribute__")))
    (h2_BoughError : PySem.W.readsIn K C_BoughError (.type "type") = true)
    (h3_BoughError : PySem.W.findCls K (.ref C_BoughError) (.type "type") "__init__" = some (.val (.builtin "ValueError.__init__")))
    (ac_NoText : PySem.W.nsIn K mainGlobals "NoText" = some (some (.ref C_NoText)))
    (xl_NoText : K.lookup C_NoText = some (excClassObj nm_NoText qn_NoText C_NoText Nn_NoText bs_NoText [.ref C_BoughError, .type "ValueError", .type "Exception", .type "BaseException", .type "object"] true sn_NoText sub_NoText ab_NoText col_NoText dd_NoText m0_NoText m1_NoText m2_NoText m3_NoText m5_NoText "ValueError.__new__"))
    (xe_NoText : PySem.W.subIn K (.ref C_NoText) (.type "BaseException") = some true)
    (xt_NoText : PySem.W.typeIn K (.ref C_NoText) = some (.type "type"))
    (xk_NoText : PySem.W.keepIn K (.ref C_NoText) = true)
    (xi_NoText : PySem.W.isClsIn K C_NoText = true)
    (xs_NoText : PySem.W.subIn K (.ref C_NoText) (.ref C_NoText) = some true)
    (g1_NoText : PySem.W.findIn K (.ref C_NoText) "__getattribute__" = some (some (.builtin "BaseException.__getattribute__")))
    (g2_NoText : PySem.W.findIn K (.ref C_NoText) "__getattr__" = some none)
    (g3_NoText : PySem.W.hasDictIn K C_NoText = true)
    (g4_NoText : PySem.W.findIn K (.ref C_NoText) "__class__" = some (some (.builtin "object.__class__")))
    (g5_NoText : PySem.W.specialIn K (.builtin "object.__class__") "__get__" = some (some (.builtin "getset_descriptor.__get__")))
    (g6_NoText : PySem.W.takesIn K (.builtin "object.__class__") = some true)
    (g7_NoText : PySem.W.mroIn K C_NoText (.type "object") = some true)
    (iI_NoText : PySem.W.findIn K (.ref C_NoText) "__init__" = some (some (.ref fI_NoText)))
    (tI_NoText : PySem.W.typeIn K (.ref fI_NoText) = some (.type "function"))
    (lI_NoText : K.lookup fI_NoText = some ⟨ocI_NoText, odI_NoText, .func (PySem.W.fnOf "__init__" "NoText.__init__" (defArgs sI_NoText) (defBody sI_NoText) (defScope sI_NoText) .none kVI_NoText dcI_NoText pmI_NoText anI_NoText cdI_NoText ctI_NoText), slI_NoText⟩)
    (cI_NoText : PySem.W.codeIn K cdI_NoText "NoText.__init__" = true)
    (kI_NoText : PySem.W.keepIn K (.ref fI_NoText) = true)
    (sa_NoText : PySem.W.findIn K (.ref C_NoText) "__setattr__" = some (some (.builtin "object.__setattr__")))
    (nf_NoText_row : PySem.W.findIn K (.ref C_NoText) "row" = some none)
    (ac_NoWood : PySem.W.nsIn K mainGlobals "NoWood" = some (some (.ref C_NoWood)))
    (xl_NoWood : K.lookup C_NoWood = some (excClassObj nm_NoWood qn_NoWood C_NoWood Nn_NoWood bs_NoWood [.ref C_BoughError, .type "ValueError", .type "Exception", .type "BaseException", .type "object"] true sn_NoWood sub_NoWood ab_NoWood col_NoWood dd_NoWood m0_NoWood m1_NoWood m2_NoWood m3_NoWood m5_NoWood "ValueError.__new__"))
    (xe_NoWood : PySem.W.subIn K (.ref C_NoWood) (.type "BaseException") = some true)
    (xt_NoWood : PySem.W.typeIn K (.ref C_NoWood) = some (.type "type"))
    (xk_NoWood : PySem.W.keepIn K (.ref C_NoWood) = true)
    (xi_NoWood : PySem.W.isClsIn K C_NoWood = true)
    (xs_NoWood : PySem.W.subIn K (.ref C_NoWood) (.ref C_NoWood) = some true)
    (g1_NoWood : PySem.W.findIn K (.ref C_NoWood) "__getattribute__" = some (some (.builtin "BaseException.__getattribute__")))
    (g2_NoWood : PySem.W.findIn K (.ref C_NoWood) "__getattr__" = some none)
    (g3_NoWood : PySem.W.hasDictIn K C_NoWood = true)
    (g4_NoWood : PySem.W.findIn K (.ref C_NoWood) "__class__" = some (some (.builtin "object.__class__")))
    (g5_NoWood : PySem.W.specialIn K (.builtin "object.__class__") "__get__" = some (some (.builtin "getset_descriptor.__get__")))
    (g6_NoWood : PySem.W.takesIn K (.builtin "object.__class__") = some true)
    (g7_NoWood : PySem.W.mroIn K C_NoWood (.type "object") = some true)
    (iI_NoWood : PySem.W.findIn K (.ref C_NoWood) "__init__" = some (some (.ref fI_NoWood)))
    (tI_NoWood : PySem.W.typeIn K (.ref fI_NoWood) = some (.type "function"))
    (lI_NoWood : K.lookup fI_NoWood = some ⟨ocI_NoWood, odI_NoWood, .func (PySem.W.fnOf "__init__" "NoWood.__init__" (defArgs sI_NoWood) (defBody sI_NoWood) (defScope sI_NoWood) .none kVI_NoWood dcI_NoWood pmI_NoWood anI_NoWood cdI_NoWood ctI_NoWood), slI_NoWood⟩)
    (cI_NoWood : PySem.W.codeIn K cdI_NoWood "NoWood.__init__" = true)
    (kI_NoWood : PySem.W.keepIn K (.ref fI_NoWood) = true)
    (sa_NoWood : PySem.W.findIn K (.ref C_NoWood) "__setattr__" = some (some (.builtin "object.__setattr__")))
    (nf_NoWood_word : PySem.W.findIn K (.ref C_NoWood) "word" = some none)
    (nf_NoWood_name : PySem.W.findIn K (.ref C_NoWood) "name" = some none)
    (ac_NoTree : PySem.W.nsIn K mainGlobals "NoTree" = some (some (.ref C_NoTree)))
    (xl_NoTree : K.lookup C_NoTree = some (excClassObj nm_NoTree qn_NoTree C_NoTree Nn_NoTree bs_NoTree [.ref C_BoughError, .type "ValueError", .type "Exception", .type "BaseException", .type "object"] true sn_NoTree sub_NoTree ab_NoTree col_NoTree dd_NoTree m0_NoTree m1_NoTree m2_NoTree m3_NoTree m5_NoTree "ValueError.__new__"))
    (xe_NoTree : PySem.W.subIn K (.ref C_NoTree) (.type "BaseException") = some true)
    (xt_NoTree : PySem.W.typeIn K (.ref C_NoTree) = some (.type "type"))
    (xk_NoTree : PySem.W.keepIn K (.ref C_NoTree) = true)
    (xi_NoTree : PySem.W.isClsIn K C_NoTree = true)
    (xs_NoTree : PySem.W.subIn K (.ref C_NoTree) (.ref C_NoTree) = some true)
    (g1_NoTree : PySem.W.findIn K (.ref C_NoTree) "__getattribute__" = some (some (.builtin "BaseException.__getattribute__")))
    (g2_NoTree : PySem.W.findIn K (.ref C_NoTree) "__getattr__" = some none)
    (g3_NoTree : PySem.W.hasDictIn K C_NoTree = true)
    (g4_NoTree : PySem.W.findIn K (.ref C_NoTree) "__class__" = some (some (.builtin "object.__class__")))
    (g5_NoTree : PySem.W.specialIn K (.builtin "object.__class__") "__get__" = some (some (.builtin "getset_descriptor.__get__")))
    (g6_NoTree : PySem.W.takesIn K (.builtin "object.__class__") = some true)
    (g7_NoTree : PySem.W.mroIn K C_NoTree (.type "object") = some true)
    (iI_NoTree : PySem.W.findIn K (.ref C_NoTree) "__init__" = some (some (.ref fI_NoTree)))
    (tI_NoTree : PySem.W.typeIn K (.ref fI_NoTree) = some (.type "function"))
    (lI_NoTree : K.lookup fI_NoTree = some ⟨ocI_NoTree, odI_NoTree, .func (PySem.W.fnOf "__init__" "NoTree.__init__" (defArgs sI_NoTree) (defBody sI_NoTree) (defScope sI_NoTree) .none kVI_NoTree dcI_NoTree pmI_NoTree anI_NoTree cdI_NoTree ctI_NoTree), slI_NoTree⟩)
    (cI_NoTree : PySem.W.codeIn K cdI_NoTree "NoTree.__init__" = true)
    (kI_NoTree : PySem.W.keepIn K (.ref fI_NoTree) = true)
    (sa_NoTree : PySem.W.findIn K (.ref C_NoTree) "__setattr__" = some (some (.builtin "object.__setattr__")))
    (nf_NoTree_at : PySem.W.findIn K (.ref C_NoTree) "at" = some none)
    (ac_NoWord : PySem.W.nsIn K mainGlobals "NoWord" = some (some (.ref C_NoWord)))
    (xl_NoWord : K.lookup C_NoWord = some (excClassObj nm_NoWord qn_NoWord C_NoWord Nn_NoWord bs_NoWord [.ref C_BoughError, .type "ValueError", .type "Exception", .type "BaseException", .type "object"] true sn_NoWord sub_NoWord ab_NoWord col_NoWord dd_NoWord m0_NoWord m1_NoWord m2_NoWord m3_NoWord m5_NoWord "ValueError.__new__"))
    (xe_NoWord : PySem.W.subIn K (.ref C_NoWord) (.type "BaseException") = some true)
    (xt_NoWord : PySem.W.typeIn K (.ref C_NoWord) = some (.type "type"))
    (xk_NoWord : PySem.W.keepIn K (.ref C_NoWord) = true)
    (xi_NoWord : PySem.W.isClsIn K C_NoWord = true)
    (xs_NoWord : PySem.W.subIn K (.ref C_NoWord) (.ref C_NoWord) = some true)
    (g1_NoWord : PySem.W.findIn K (.ref C_NoWord) "__getattribute__" = some (some (.builtin "BaseException.__getattribute__")))
    (g2_NoWord : PySem.W.findIn K (.ref C_NoWord) "__getattr__" = some none)
    (g3_NoWord : PySem.W.hasDictIn K C_NoWord = true)
    (g4_NoWord : PySem.W.findIn K (.ref C_NoWord) "__class__" = some (some (.builtin "object.__class__")))
    (g5_NoWord : PySem.W.specialIn K (.builtin "object.__class__") "__get__" = some (some (.builtin "getset_descriptor.__get__")))
    (g6_NoWord : PySem.W.takesIn K (.builtin "object.__class__") = some true)
    (g7_NoWord : PySem.W.mroIn K C_NoWord (.type "object") = some true)
    (iI_NoWord : PySem.W.findIn K (.ref C_NoWord) "__init__" = some (some (.ref fI_NoWord)))
    (tI_NoWord : PySem.W.typeIn K (.ref fI_NoWord) = some (.type "function"))
    (lI_NoWord : K.lookup fI_NoWord = some ⟨ocI_NoWord, odI_NoWord, .func (PySem.W.fnOf "__init__" "NoWord.__init__" (defArgs sI_NoWord) (defBody sI_NoWord) (defScope sI_NoWord) .none kVI_NoWord dcI_NoWord pmI_NoWord anI_NoWord cdI_NoWord ctI_NoWord), slI_NoWord⟩)
    (cI_NoWord : PySem.W.codeIn K cdI_NoWord "NoWord.__init__" = true)
    (kI_NoWord : PySem.W.keepIn K (.ref fI_NoWord) = true)
    (sa_NoWord : PySem.W.findIn K (.ref C_NoWord) "__setattr__" = some (some (.builtin "object.__setattr__")))
    (nf_NoWord_at : PySem.W.findIn K (.ref C_NoWord) "at" = some none)
    (ac_TooLong : PySem.W.nsIn K mainGlobals "TooLong" = some (some (.ref C_TooLong)))
    (xl_TooLong : K.lookup C_TooLong = some (excClassObj nm_TooLong qn_TooLong C_TooLong Nn_TooLong bs_TooLong [.ref C_BoughError, .type "ValueError", .type "Exception", .type "BaseException", .type "object"] true sn_TooLong sub_TooLong ab_TooLong col_TooLong dd_TooLong m0_TooLong m1_TooLong m2_TooLong m3_TooLong m5_TooLong "ValueError.__new__"))
    (xe_TooLong : PySem.W.subIn K (.ref C_TooLong) (.type "BaseException") = some true)
    (xt_TooLong : PySem.W.typeIn K (.ref C_TooLong) = some (.type "type"))
    (xk_TooLong : PySem.W.keepIn K (.ref C_TooLong) = true)
    (xi_TooLong : PySem.W.isClsIn K C_TooLong = true)
    (xs_TooLong : PySem.W.subIn K (.ref C_TooLong) (.ref C_TooLong) = some true)
    (g1_TooLong : PySem.W.findIn K (.ref C_TooLong) "__getattribute__" = some (some (.builtin "BaseException.__getattribute__")))
    (g2_TooLong : PySem.W.findIn K (.ref C_TooLong) "__getattr__" = some none)
    (g3_TooLong : PySem.W.hasDictIn K C_TooLong = true)
    (g4_TooLong : PySem.W.findIn K (.ref C_TooLong) "__class__" = some (some (.builtin "object.__class__")))
    (g5_TooLong : PySem.W.specialIn K (.builtin "object.__class__") "__get__" = some (some (.builtin "getset_descriptor.__get__")))
    (g6_TooLong : PySem.W.takesIn K (.builtin "object.__class__") = some true)
    (g7_TooLong : PySem.W.mroIn K C_TooLong (.type "object") = some true)
    (iI_TooLong : PySem.W.findIn K (.ref C_TooLong) "__init__" = some (some (.ref fI_TooLong)))
    (tI_TooLong : PySem.W.typeIn K (.ref fI_TooLong) = some (.type "function"))
    (lI_TooLong : K.lookup fI_TooLong = some ⟨ocI_TooLong, odI_TooLong, .func (PySem.W.fnOf "__init__" "TooLong.__init__" (defArgs sI_TooLong) (defBody sI_TooLong) (defScope sI_TooLong) .none kVI_TooLong dcI_TooLong pmI_TooLong anI_TooLong cdI_TooLong ctI_TooLong), slI_TooLong⟩)
    (cI_TooLong : PySem.W.codeIn K cdI_TooLong "TooLong.__init__" = true)
    (kI_TooLong : PySem.W.keepIn K (.ref fI_TooLong) = true)
    (sa_TooLong : PySem.W.findIn K (.ref C_TooLong) "__setattr__" = some (some (.builtin "object.__setattr__")))
    (nf_TooLong_most : PySem.W.findIn K (.ref C_TooLong) "most" = some none)
    (ac_NoReader : PySem.W.nsIn K mainGlobals "NoReader" = some (some (.ref C_NoReader)))
    (xl_NoReader : K.lookup C_NoReader = some (excClassObj nm_NoReader qn_NoReader C_NoReader Nn_NoReader bs_NoReader [.ref C_BoughError, .type "ValueError", .type "Exception", .type "BaseException", .type "object"] true sn_NoReader sub_NoReader ab_NoReader col_NoReader dd_NoReader m0_NoReader m1_NoReader m2_NoReader m3_NoReader m5_NoReader "ValueError.__new__"))
    (xe_NoReader : PySem.W.subIn K (.ref C_NoReader) (.type "BaseException") = some true)
    (xt_NoReader : PySem.W.typeIn K (.ref C_NoReader) = some (.type "type"))
    (xk_NoReader : PySem.W.keepIn K (.ref C_NoReader) = true)
    (xi_NoReader : PySem.W.isClsIn K C_NoReader = true)
    (xs_NoReader : PySem.W.subIn K (.ref C_NoReader) (.ref C_NoReader) = some true)
    (g1_NoReader : PySem.W.findIn K (.ref C_NoReader) "__getattribute__" = some (some (.builtin "BaseException.__getattribute__")))
    (g2_NoReader : PySem.W.findIn K (.ref C_NoReader) "__getattr__" = some none)
    (g3_NoReader : PySem.W.hasDictIn K C_NoReader = true)
    (g4_NoReader : PySem.W.findIn K (.ref C_NoReader) "__class__" = some (some (.builtin "object.__class__")))
    (g5_NoReader : PySem.W.specialIn K (.builtin "object.__class__") "__get__" = some (some (.builtin "getset_descriptor.__get__")))
    (g6_NoReader : PySem.W.takesIn K (.builtin "object.__class__") = some true)
    (g7_NoReader : PySem.W.mroIn K C_NoReader (.type "object") = some true)
    (iI_NoReader : PySem.W.findIn K (.ref C_NoReader) "__init__" = some (some (.ref fI_NoReader)))
    (tI_NoReader : PySem.W.typeIn K (.ref fI_NoReader) = some (.type "function"))
    (lI_NoReader : K.lookup fI_NoReader = some ⟨ocI_NoReader, odI_NoReader, .func (PySem.W.fnOf "__init__" "NoReader.__init__" (defArgs sI_NoReader) (defBody sI_NoReader) (defScope sI_NoReader) .none kVI_NoReader dcI_NoReader pmI_NoReader anI_NoReader cdI_NoReader ctI_NoReader), slI_NoReader⟩)
    (cI_NoReader : PySem.W.codeIn K cdI_NoReader "NoReader.__init__" = true)
    (kI_NoReader : PySem.W.keepIn K (.ref fI_NoReader) = true)
    (sa_NoReader : PySem.W.findIn K (.ref C_NoReader) "__setattr__" = some (some (.builtin "object.__setattr__")))
    (nf_NoReader_word : PySem.W.findIn K (.ref C_NoReader) "word" = some none)
    (nf_NoReader_maker : PySem.W.findIn K (.ref C_NoReader) "maker" = some none)
    (ac_NoFit : PySem.W.nsIn K mainGlobals "NoFit" = some (some (.ref C_NoFit)))
    (xl_NoFit : K.lookup C_NoFit = some (excClassObj nm_NoFit qn_NoFit C_NoFit Nn_NoFit bs_NoFit [.ref C_BoughError, .type "ValueError", .type "Exception", .type "BaseException", .type "object"] true sn_NoFit sub_NoFit ab_NoFit col_NoFit dd_NoFit m0_NoFit m1_NoFit m2_NoFit m3_NoFit m5_NoFit "ValueError.__new__"))
    (xe_NoFit : PySem.W.subIn K (.ref C_NoFit) (.type "BaseException") = some true)
    (xt_NoFit : PySem.W.typeIn K (.ref C_NoFit) = some (.type "type"))
    (xk_NoFit : PySem.W.keepIn K (.ref C_NoFit) = true)
    (xi_NoFit : PySem.W.isClsIn K C_NoFit = true)
    (xs_NoFit : PySem.W.subIn K (.ref C_NoFit) (.ref C_NoFit) = some true)
    (g1_NoFit : PySem.W.findIn K (.ref C_NoFit) "__getattribute__" = some (some (.builtin "BaseException.__getattribute__")))
    (g2_NoFit : PySem.W.findIn K (.ref C_NoFit) "__getattr__" = some none)
    (g3_NoFit : PySem.W.hasDictIn K C_NoFit = true)
    (g4_NoFit : PySem.W.findIn K (.ref C_NoFit) "__class__" = some (some (.builtin "object.__class__")))
    (g5_NoFit : PySem.W.specialIn K (.builtin "object.__class__") "__get__" = some (some (.builtin "getset_descriptor.__get__")))
    (g6_NoFit : PySem.W.takesIn K (.builtin "object.__class__") = some true)
    (g7_NoFit : PySem.W.mroIn K C_NoFit (.type "object") = some true)
    (iI_NoFit : PySem.W.findIn K (.ref C_NoFit) "__init__" = some (some (.ref fI_NoFit)))
    (tI_NoFit : PySem.W.typeIn K (.ref fI_NoFit) = some (.type "function"))
    (lI_NoFit : K.lookup fI_NoFit = some ⟨ocI_NoFit, odI_NoFit, .func (PySem.W.fnOf "__init__" "NoFit.__init__" (defArgs sI_NoFit) (defBody sI_NoFit) (defScope sI_NoFit) .none kVI_NoFit dcI_NoFit pmI_NoFit anI_NoFit cdI_NoFit ctI_NoFit), slI_NoFit⟩)
    (cI_NoFit : PySem.W.codeIn K cdI_NoFit "NoFit.__init__" = true)
    (kI_NoFit : PySem.W.keepIn K (.ref fI_NoFit) = true)
    (sa_NoFit : PySem.W.findIn K (.ref C_NoFit) "__setattr__" = some (some (.builtin "object.__setattr__")))
    (nf_NoFit_at : PySem.W.findIn K (.ref C_NoFit) "at" = some none)
    (ac_NoPrinter : PySem.W.nsIn K mainGlobals "NoPrinter" = some (some (.ref C_NoPrinter)))
    (xl_NoPrinter : K.lookup C_NoPrinter = some (excClassObj nm_NoPrinter qn_NoPrinter C_NoPrinter Nn_NoPrinter bs_NoPrinter [.ref C_BoughError, .type "ValueError", .type "Exception", .type "BaseException", .type "object"] true sn_NoPrinter sub_NoPrinter ab_NoPrinter col_NoPrinter dd_NoPrinter m0_NoPrinter m1_NoPrinter m2_NoPrinter m3_NoPrinter m5_NoPrinter "ValueError.__new__"))
    (xe_NoPrinter : PySem.W.subIn K (.ref C_NoPrinter) (.type "BaseException") = some true)
    (xt_NoPrinter : PySem.W.typeIn K (.ref C_NoPrinter) = some (.type "type"))
    (xk_NoPrinter : PySem.W.keepIn K (.ref C_NoPrinter) = true)
    (xi_NoPrinter : PySem.W.isClsIn K C_NoPrinter = true)
    (xs_NoPrinter : PySem.W.subIn K (.ref C_NoPrinter) (.ref C_NoPrinter) = some true)
    (g1_NoPrinter : PySem.W.findIn K (.ref C_NoPrinter) "__getattribute__" = some (some (.builtin "BaseException.__getattribute__")))
    (g2_NoPrinter : PySem.W.findIn K (.ref C_NoPrinter) "__getattr__" = some none)
    (g3_NoPrinter : PySem.W.hasDictIn K C_NoPrinter = true)
    (g4_NoPrinter : PySem.W.findIn K (.ref C_NoPrinter) "__class__" = some (some (.builtin "object.__class__")))
    (g5_NoPrinter : PySem.W.specialIn K (.builtin "object.__class__") "__get__" = some (some (.builtin "getset_descriptor.__get__")))
    (g6_NoPrinter : PySem.W.takesIn K (.builtin "object.__class__") = some true)
    (g7_NoPrinter : PySem.W.mroIn K C_NoPrinter (.type "object") = some true)
    (iI_NoPrinter : PySem.W.findIn K (.ref C_NoPrinter) "__init__" = some (some (.ref fI_NoPrinter)))
    (tI_NoPrinter : PySem.W.typeIn K (.ref fI_NoPrinter) = some (.type "function"))
    (lI_NoPrinter : K.lookup fI_NoPrinter = some ⟨ocI_NoPrinter, odI_NoPrinter, .func (PySem.W.fnOf "__init__" "NoPrinter.__init__" (defArgs sI_NoPrinter) (defBody sI_NoPrinter) (defScope sI_NoPrinter) .none kVI_NoPrinter dcI_NoPrinter pmI_NoPrinter anI_NoPrinter cdI_NoPrinter ctI_NoPrinter), slI_NoPrinter⟩)
    (cI_NoPrinter : PySem.W.codeIn K cdI_NoPrinter "NoPrinter.__init__" = true)
    (kI_NoPrinter : PySem.W.keepIn K (.ref fI_NoPrinter) = true)
    (sa_NoPrinter : PySem.W.findIn K (.ref C_NoPrinter) "__setattr__" = some (some (.builtin "object.__setattr__")))
    (nf_NoPrinter_word : PySem.W.findIn K (.ref C_NoPrinter) "word" = some none)
    (nf_NoPrinter_maker : PySem.W.findIn K (.ref C_NoPrinter) "maker" = some none)
    (ac_NoTurner : PySem.W.nsIn K mainGlobals "NoTurner" = some (some (.ref C_NoTurner)))
    (xl_NoTurner : K.lookup C_NoTurner = some (excClassObj nm_NoTurner qn_NoTurner C_NoTurner Nn_NoTurner bs_NoTurner [.ref C_BoughError, .type "ValueError", .type "Exception", .type "BaseException", .type "object"] true sn_NoTurner sub_NoTurner ab_NoTurner col_NoTurner dd_NoTurner m0_NoTurner m1_NoTurner m2_NoTurner m3_NoTurner m5_NoTurner "ValueError.__new__"))
    (xe_NoTurner : PySem.W.subIn K (.ref C_NoTurner) (.type "BaseException") = some true)
    (xt_NoTurner : PySem.W.typeIn K (.ref C_NoTurner) = some (.type "type"))
    (xk_NoTurner : PySem.W.keepIn K (.ref C_NoTurner) = true)
    (xi_NoTurner : PySem.W.isClsIn K C_NoTurner = true)
    (xs_NoTurner : PySem.W.subIn K (.ref C_NoTurner) (.ref C_NoTurner) = some true)
    (g1_NoTurner : PySem.W.findIn K (.ref C_NoTurner) "__getattribute__" = some (some (.builtin "BaseException.__getattribute__")))
    (g2_NoTurner : PySem.W.findIn K (.ref C_NoTurner) "__getattr__" = some none)
    (g3_NoTurner : PySem.W.hasDictIn K C_NoTurner = true)
    (g4_NoTurner : PySem.W.findIn K (.ref C_NoTurner) "__class__" = some (some (.builtin "object.__class__")))
    (g5_NoTurner : PySem.W.specialIn K (.builtin "object.__class__") "__get__" = some (some (.builtin "getset_descriptor.__get__")))
    (g6_NoTurner : PySem.W.takesIn K (.builtin "object.__class__") = some true)
    (g7_NoTurner : PySem.W.mroIn K C_NoTurner (.type "object") = some true)
    (iI_NoTurner : PySem.W.findIn K (.ref C_NoTurner) "__init__" = some (some (.ref fI_NoTurner)))
    (tI_NoTurner : PySem.W.typeIn K (.ref fI_NoTurner) = some (.type "function"))
    (lI_NoTurner : K.lookup fI_NoTurner = some ⟨ocI_NoTurner, odI_NoTurner, .func (PySem.W.fnOf "__init__" "NoTurner.__init__" (defArgs sI_NoTurner) (defBody sI_NoTurner) (defScope sI_NoTurner) .none kVI_NoTurner dcI_NoTurner pmI_NoTurner anI_NoTurner cdI_NoTurner ctI_NoTurner), slI_NoTurner⟩)
    (cI_NoTurner : PySem.W.codeIn K cdI_NoTurner "NoTurner.__init__" = true)
    (kI_NoTurner : PySem.W.keepIn K (.ref fI_NoTurner) = true)
    (sa_NoTurner : PySem.W.findIn K (.ref C_NoTurner) "__setattr__" = some (some (.builtin "object.__setattr__")))
    (nf_NoTurner_word : PySem.W.findIn K (.ref C_NoTurner) "word" = some none)
    (nf_NoTurner_maker : PySem.W.findIn K (.ref C_NoTurner) "maker" = some none)
    (ac_TooWide : PySem.W.nsIn K mainGlobals "TooWide" = some (some (.ref C_TooWide)))
    (xl_TooWide : K.lookup C_TooWide = some (excClassObj nm_TooWide qn_TooWide C_TooWide Nn_TooWide bs_TooWide [.ref C_BoughError, .type "ValueError", .type "Exception", .type "BaseException", .type "object"] true sn_TooWide sub_TooWide ab_TooWide col_TooWide dd_TooWide m0_TooWide m1_TooWide m2_TooWide m3_TooWide m5_TooWide "ValueError.__new__"))
    (xe_TooWide : PySem.W.subIn K (.ref C_TooWide) (.type "BaseException") = some true)
    (xt_TooWide : PySem.W.typeIn K (.ref C_TooWide) = some (.type "type"))
    (xk_TooWide : PySem.W.keepIn K (.ref C_TooWide) = true)
    (xi_TooWide : PySem.W.isClsIn K C_TooWide = true)
    (xs_TooWide : PySem.W.subIn K (.ref C_TooWide) (.ref C_TooWide) = some true)
    (g1_TooWide : PySem.W.findIn K (.ref C_TooWide) "__getattribute__" = some (some (.builtin "BaseException.__getattribute__")))
    (g2_TooWide : PySem.W.findIn K (.ref C_TooWide) "__getattr__" = some none)
    (g3_TooWide : PySem.W.hasDictIn K C_TooWide = true)
    (g4_TooWide : PySem.W.findIn K (.ref C_TooWide) "__class__" = some (some (.builtin "object.__class__")))
    (g5_TooWide : PySem.W.specialIn K (.builtin "object.__class__") "__get__" = some (some (.builtin "getset_descriptor.__get__")))
    (g6_TooWide : PySem.W.takesIn K (.builtin "object.__class__") = some true)
    (g7_TooWide : PySem.W.mroIn K C_TooWide (.type "object") = some true)
    (iI_TooWide : PySem.W.findIn K (.ref C_TooWide) "__init__" = some (some (.ref fI_TooWide)))
    (tI_TooWide : PySem.W.typeIn K (.ref fI_TooWide) = some (.type "function"))
    (lI_TooWide : K.lookup fI_TooWide = some ⟨ocI_TooWide, odI_TooWide, .func (PySem.W.fnOf "__init__" "TooWide.__init__" (defArgs sI_TooWide) (defBody sI_TooWide) (defScope sI_TooWide) .none kVI_TooWide dcI_TooWide pmI_TooWide anI_TooWide cdI_TooWide ctI_TooWide), slI_TooWide⟩)
    (cI_TooWide : PySem.W.codeIn K cdI_TooWide "TooWide.__init__" = true)
    (kI_TooWide : PySem.W.keepIn K (.ref fI_TooWide) = true)
    (sa_TooWide : PySem.W.findIn K (.ref C_TooWide) "__setattr__" = some (some (.builtin "object.__setattr__")))
    (nf_TooWide_rooms : PySem.W.findIn K (.ref C_TooWide) "rooms" = some none)
    (ac_NoRow : PySem.W.nsIn K mainGlobals "NoRow" = some (some (.ref C_NoRow)))
    (xl_NoRow : K.lookup C_NoRow = some (excClassObj nm_NoRow qn_NoRow C_NoRow Nn_NoRow bs_NoRow [.ref C_BoughError, .type "ValueError", .type "Exception", .type "BaseException", .type "object"] true sn_NoRow sub_NoRow ab_NoRow col_NoRow dd_NoRow m0_NoRow m1_NoRow m2_NoRow m3_NoRow m5_NoRow "ValueError.__new__"))
    (xe_NoRow : PySem.W.subIn K (.ref C_NoRow) (.type "BaseException") = some true)
    (xt_NoRow : PySem.W.typeIn K (.ref C_NoRow) = some (.type "type"))
    (xk_NoRow : PySem.W.keepIn K (.ref C_NoRow) = true)
    (xi_NoRow : PySem.W.isClsIn K C_NoRow = true)
    (xs_NoRow : PySem.W.subIn K (.ref C_NoRow) (.ref C_NoRow) = some true)
    (g1_NoRow : PySem.W.findIn K (.ref C_NoRow) "__getattribute__" = some (some (.builtin "BaseException.__getattribute__")))
    (g2_NoRow : PySem.W.findIn K (.ref C_NoRow) "__getattr__" = some none)
    (g3_NoRow : PySem.W.hasDictIn K C_NoRow = true)
    (g4_NoRow : PySem.W.findIn K (.ref C_NoRow) "__class__" = some (some (.builtin "object.__class__")))
    (g5_NoRow : PySem.W.specialIn K (.builtin "object.__class__") "__get__" = some (some (.builtin "getset_descriptor.__get__")))
    (g6_NoRow : PySem.W.takesIn K (.builtin "object.__class__") = some true)
    (g7_NoRow : PySem.W.mroIn K C_NoRow (.type "object") = some true)
    (iI_NoRow : PySem.W.findIn K (.ref C_NoRow) "__init__" = some (some (.ref fI_NoRow)))
    (tI_NoRow : PySem.W.typeIn K (.ref fI_NoRow) = some (.type "function"))
    (lI_NoRow : K.lookup fI_NoRow = some ⟨ocI_NoRow, odI_NoRow, .func (PySem.W.fnOf "__init__" "NoRow.__init__" (defArgs sI_NoRow) (defBody sI_NoRow) (defScope sI_NoRow) .none kVI_NoRow dcI_NoRow pmI_NoRow anI_NoRow cdI_NoRow ctI_NoRow), slI_NoRow⟩)
    (cI_NoRow : PySem.W.codeIn K cdI_NoRow "NoRow.__init__" = true)
    (kI_NoRow : PySem.W.keepIn K (.ref fI_NoRow) = true)
    (ac_Nought : PySem.W.nsIn K mainGlobals "Nought" = some (some (.ref C_Nought)))
    (xl_Nought : K.lookup C_Nought = some (excClassObj nm_Nought qn_Nought C_Nought Nn_Nought bs_Nought [.type "ZeroDivisionError", .type "ArithmeticError", .type "Exception", .type "BaseException", .type "object"] true sn_Nought sub_Nought ab_Nought col_Nought dd_Nought m0_Nought m1_Nought m2_Nought m3_Nought m5_Nought "ZeroDivisionError.__new__"))
    (xe_Nought : PySem.W.subIn K (.ref C_Nought) (.type "BaseException") = some true)
    (xt_Nought : PySem.W.typeIn K (.ref C_Nought) = some (.type "type"))
    (xk_Nought : PySem.W.keepIn K (.ref C_Nought) = true)
    (xi_Nought : PySem.W.isClsIn K C_Nought = true)
    (xs_Nought : PySem.W.subIn K (.ref C_Nought) (.ref C_Nought) = some true)
    (g1_Nought : PySem.W.findIn K (.ref C_Nought) "__getattribute__" = some (some (.builtin "BaseException.__getattribute__")))
    (g2_Nought : PySem.W.findIn K (.ref C_Nought) "__getattr__" = some none)
    (g3_Nought : PySem.W.hasDictIn K C_Nought = true)
    (g4_Nought : PySem.W.findIn K (.ref C_Nought) "__class__" = some (some (.builtin "object.__class__")))
    (g5_Nought : PySem.W.specialIn K (.builtin "object.__class__") "__get__" = some (some (.builtin "getset_descriptor.__get__")))
    (g6_Nought : PySem.W.takesIn K (.builtin "object.__class__") = some true)
    (g7_Nought : PySem.W.mroIn K C_Nought (.type "object") = some true)
    (iI_Nought : PySem.W.findIn K (.ref C_Nought) "__init__" = some (some (.ref fI_Nought)))
    (tI_Nought : PySem.W.typeIn K (.ref fI_Nought) = some (.type "function"))
    (lI_Nought : K.lookup fI_Nought = some ⟨ocI_Nought, odI_Nought, .func (PySem.W.fnOf "__init__" "Nought.__init__" (defArgs sI_Nought) (defBody sI_Nought) (defScope sI_Nought) .none kVI_Nought dcI_Nought pmI_Nought anI_Nought cdI_Nought ctI_Nought), slI_Nought⟩)
    (cI_Nought : PySem.W.codeIn K cdI_Nought "Nought.__init__" = true)
    (kI_Nought : PySem.W.keepIn K (.ref fI_Nought) = true)
    (ac_NotKept : PySem.W.nsIn K mainGlobals "NotKept" = some (some (.ref C_NotKept)))
    (xe_NotKept : PySem.W.subIn K (.ref C_NotKept) (.type "BaseException") = some true)
    (xt_NotKept : PySem.W.typeIn K (.ref C_NotKept) = some (.type "type"))
    (xk_NotKept : PySem.W.keepIn K (.ref C_NotKept) = true)
    (xi_NotKept : PySem.W.isClsIn K C_NotKept = true)
    (xs_NotKept : PySem.W.subIn K (.ref C_NotKept) (.ref C_NotKept) = some true)
    (g1_NotKept : PySem.W.findIn K (.ref C_NotKept) "__getattribute__" = some (some (.builtin "BaseException.__getattribute__")))
    (g2_NotKept : PySem.W.findIn K (.ref C_NotKept) "__getattr__" = some none)
    (g3_NotKept : PySem.W.hasDictIn K C_NotKept = true)
    (g4_NotKept : PySem.W.findIn K (.ref C_NotKept) "__class__" = some (some (.builtin "object.__class__")))
    (g5_NotKept : PySem.W.specialIn K (.builtin "object.__class__") "__get__" = some (some (.builtin "getset_descriptor.__get__")))
    (g6_NotKept : PySem.W.takesIn K (.builtin "object.__class__") = some true)
    (g7_NotKept : PySem.W.mroIn K C_NotKept (.type "object") = some true)
    (iI_NotKept : PySem.W.findIn K (.ref C_NotKept) "__init__" = some (some (.ref fI_NotKept)))
    (tI_NotKept : PySem.W.typeIn K (.ref fI_NotKept) = some (.type "function"))
    (lI_NotKept : K.lookup fI_NotKept = some ⟨ocI_NotKept, odI_NotKept, .func (PySem.W.fnOf "__init__" "NotKept.__init__" (defArgs sI_NotKept) (defBody sI_NotKept) (defScope sI_NotKept) .none kVI_NotKept dcI_NotKept pmI_NotKept anI_NotKept cdI_NotKept ctI_NotKept), slI_NotKept⟩)
    (cI_NotKept : PySem.W.codeIn K cdI_NotKept "NotKept.__init__" = true)
    (kI_NotKept : PySem.W.keepIn K (.ref fI_NotKept) = true)
    (nf_NotKept_name : PySem.W.findIn K (.ref C_NotKept) "name" = some none)
    (ac_NoBox : PySem.W.nsIn K mainGlobals "NoBox" = some (some (.ref C_NoBox)))
    (xe_NoBox : PySem.W.subIn K (.ref C_NoBox) (.type "BaseException") = some true)
    (xt_NoBox : PySem.W.typeIn K (.ref C_NoBox) = some (.type "type"))
    (xk_NoBox : PySem.W.keepIn K (.ref C_NoBox) = true)
    (xi_NoBox : PySem.W.isClsIn K C_NoBox = true)
    (xs_NoBox : PySem.W.subIn K (.ref C_NoBox) (.ref C_NoBox) = some true)
    (g1_NoBox : PySem.W.findIn K (.ref C_NoBox) "__getattribute__" = some (some (.builtin "BaseException.__getattribute__")))
    (g2_NoBox : PySem.W.findIn K (.ref C_NoBox) "__getattr__" = some none)
    (g3_NoBox : PySem.W.hasDictIn K C_NoBox = true)
    (g4_NoBox : PySem.W.findIn K (.ref C_NoBox) "__class__" = some (some (.builtin "object.__class__")))
    (g5_NoBox : PySem.W.specialIn K (.builtin "object.__class__") "__get__" = some (some (.builtin "getset_descriptor.__get__")))
    (g6_NoBox : PySem.W.takesIn K (.builtin "object.__class__") = some true)
    (g7_NoBox : PySem.W.mroIn K C_NoBox (.type "object") = some true)
    (iI_NoBox : PySem.W.findIn K (.ref C_NoBox) "__init__" = some (some (.ref fI_NoBox)))
    (tI_NoBox : PySem.W.typeIn K (.ref fI_NoBox) = some (.type "function"))
    (lI_NoBox : K.lookup fI_NoBox = some ⟨ocI_NoBox, odI_NoBox, .func (PySem.W.fnOf "__init__" "NoBox.__init__" (defArgs sI_NoBox) (defBody sI_NoBox) (defScope sI_NoBox) .none kVI_NoBox dcI_NoBox pmI_NoBox anI_NoBox cdI_NoBox ctI_NoBox), slI_NoBox⟩)
    (cI_NoBox : PySem.W.codeIn K cdI_NoBox "NoBox.__init__" = true)
    (kI_NoBox : PySem.W.keepIn K (.ref fI_NoBox) = true)
    (nf_NoBox_box : PySem.W.findIn K (.ref C_NoBox) "box" = some none)
    (vb_IndexError : PySem.W.findCls K (.type "IndexError") (.type "type") "__init__" = some (.val (.builtin "IndexError.__init__")))
    (vb_KeyError : PySem.W.findCls K (.type "KeyError") (.type "type") "__init__" = some (.val (.builtin "KeyError.__init__")))
    (vb_ValueError : PySem.W.findCls K (.type "ValueError") (.type "type") "__init__" = some (.val (.builtin "ValueError.__init__")))
    (vb_ZeroDivisionError : PySem.W.findCls K (.type "ZeroDivisionError") (.type "type") "__init__" = some (.val (.builtin "ZeroDivisionError.__init__")))
    (lkS : K.lookup cStatics = some ⟨ocS, odS, .dict esS epS, slS⟩)
    (okS : keysOk esS = true)
    (noS : PySem.W.nsIn K cStatics "sys.int_max_str_digits" = some none)
    (yhE : PySem.W.subIn K (.ref C_NoText) (.ref C_BoughError) = some true)
    (yhV : PySem.W.subIn K (.ref C_NoText) (.type "ValueError") = some true)
    (yh0 : PySem.W.subIn K (.ref C_NoText) (.ref C_NoFit) = some false)
    (yh1 : PySem.W.subIn K (.ref C_NoText) (.ref C_NoPrinter) = some false)
    (yh2 : PySem.W.subIn K (.ref C_NoText) (.ref C_NoReader) = some false)
    (yh3 : PySem.W.subIn K (.ref C_NoText) (.ref C_NoRow) = some false)
    (yh4 : PySem.W.subIn K (.ref C_NoText) (.ref C_NoTree) = some false)
    (yh5 : PySem.W.subIn K (.ref C_NoText) (.ref C_NoTurner) = some false)
    (yh6 : PySem.W.subIn K (.ref C_NoText) (.ref C_NoWood) = some false)
    (yh7 : PySem.W.subIn K (.ref C_NoText) (.ref C_NoWord) = some false)
    (yh8 : PySem.W.subIn K (.ref C_NoText) (.ref C_TooLong) = some false)
    (yh9 : PySem.W.subIn K (.ref C_NoText) (.ref C_TooWide) = some false)
    (yh10 : PySem.W.subIn K (.ref C_NoText) (.ref C_NoBox) = some false)
    (yh11 : PySem.W.subIn K (.ref C_NoText) (.ref C_NotKept) = some false)
    (yh12 : PySem.W.subIn K (.ref C_NoText) (.ref C_Nought) = some false)
    (mc_FIGURES : PySem.W.nsIn K mainGlobals "FIGURES" = some (some (.str "0123456789" tk_FIGURES)))
    (mc_MOST_FIGURES : PySem.W.nsIn K mainGlobals "MOST_FIGURES" = some (some (.int 30 tk_MOST_FIGURES)))
    (a_common_part : PySem.W.nsIn K mainGlobals "common_part" = some (some (.ref f_common_part)))
    (l_common_part : K.lookup f_common_part = some ⟨oc_common_part, od_common_part, .func (PySem.W.fnOf "common_part" "common_part" (defArgs s_common_part) (defBody s_common_part) (defScope s_common_part) .none kV_common_part dc_common_part pm_common_part an_common_part cd_common_part ct_common_part), sl_common_part⟩)
    (c_common_part : PySem.W.codeIn K cd_common_part "common_part" = true)
    (k_common_part : PySem.W.keepIn K (.ref f_common_part) = true)
    (a_fraction_of : PySem.W.nsIn K mainGlobals "fraction_of" = some (some (.ref f_fraction_of)))
    (l_fraction_of : K.lookup f_fraction_of = some ⟨oc_fraction_of, od_fraction_of, .func (PySem.W.fnOf "fraction_of" "fraction_of" (defArgs s_fraction_of) (defBody s_fraction_of) (defScope s_fraction_of) (.ref dt_fraction_of) kV_fraction_of dc_fraction_of pm_fraction_of an_fraction_of cd_fraction_of ct_fraction_of), sl_fraction_of⟩)
    (c_fraction_of : PySem.W.codeIn K cd_fraction_of "fraction_of" = true)
    (k_fraction_of : PySem.W.keepIn K (.ref f_fraction_of) = true)
    (t_fraction_of : K.lookup dt_fraction_of = some ⟨do_fraction_of, dd_fraction_of, .seq #[.int 1 dk_fraction_of0] dn_fraction_of, ds_fraction_of⟩)
    (a_show_fraction : PySem.W.nsIn K mainGlobals "show_fraction" = some (some (.ref f_show_fraction)))
    (l_show_fraction : K.lookup f_show_fraction = some ⟨oc_show_fraction, od_show_fraction, .func (PySem.W.fnOf "show_fraction" "show_fraction" (defArgs s_show_fraction) (defBody s_show_fraction) (defScope s_show_fraction) .none kV_show_fraction dc_show_fraction pm_show_fraction an_show_fraction cd_show_fraction ct_show_fraction), sl_show_fraction⟩)
    (c_show_fraction : PySem.W.codeIn K cd_show_fraction "show_fraction" = true)
    (k_show_fraction : PySem.W.keepIn K (.ref f_show_fraction) = true)
    (a_is_figures : PySem.W.nsIn K mainGlobals "is_figures" = some (some (.ref f_is_figures)))
    (l_is_figures : K.lookup f_is_figures = some ⟨oc_is_figures, od_is_figures, .func (PySem.W.fnOf "is_figures" "is_figures" (defArgs s_is_figures) (defBody s_is_figures) (defScope s_is_figures) .none kV_is_figures dc_is_figures pm_is_figures an_is_figures cd_is_figures ct_is_figures), sl_is_figures⟩)
    (c_is_figures : PySem.W.codeIn K cd_is_figures "is_figures" = true)
    (k_is_figures : PySem.W.keepIn K (.ref f_is_figures) = true)
    (a_read_fraction : PySem.W.nsIn K mainGlobals "read_fraction" = some (some (.ref f_read_fraction)))
    (l_read_fraction : K.lookup f_read_fraction = some ⟨oc_read_fraction, od_read_fraction, .func (PySem.W.fnOf "read_fraction" "read_fraction" (defArgs s_read_fraction) (defBody s_read_fraction) (defScope s_read_fraction) .none kV_read_fraction dc_read_fraction pm_read_fraction an_read_fraction cd_read_fraction ct_read_fraction), sl_read_fraction⟩)
    (c_read_fraction : PySem.W.codeIn K cd_read_fraction "read_fraction" = true)
    (k_read_fraction : PySem.W.keepIn K (.ref f_read_fraction) = true)
    (a_law_box : PySem.W.nsIn K mainGlobals "_law_box" = some (some (.ref f_law_box)))
    (l_law_box : K.lookup f_law_box = some ⟨oc_law_box, od_law_box, .func (PySem.W.fnOf "_law_box" "_law_box" (defArgs s_law_box) (defBody s_law_box) (defScope s_law_box) .none kV_law_box dc_law_box pm_law_box an_law_box cd_law_box ct_law_box), sl_law_box⟩)
    (c_law_box : PySem.W.codeIn K cd_law_box "_law_box" = true)
    (k_law_box : PySem.W.keepIn K (.ref f_law_box) = true)
    (a_law_take : PySem.W.nsIn K mainGlobals "_law_take" = some (some (.ref f_law_take)))
    (l_law_take : K.lookup f_law_take = some ⟨oc_law_take, od_law_take, .func (PySem.W.fnOf "_law_take" "_law_take" (defArgs s_law_take) (defBody s_law_take) (defScope s_law_take) .none kV_law_take dc_law_take pm_law_take an_law_take cd_law_take ct_law_take), sl_law_take⟩)
    (c_law_take : PySem.W.codeIn K cd_law_take "_law_take" = true)
    (k_law_take : PySem.W.keepIn K (.ref f_law_take) = true)
    (a_law_alike : PySem.W.nsIn K mainGlobals "_law_alike" = some (some (.ref f_law_alike)))
    (l_law_alike : K.lookup f_law_alike = some ⟨oc_law_alike, od_law_alike, .func (PySem.W.fnOf "_law_alike" "_law_alike" (defArgs s_law_alike) (defBody s_law_alike) (defScope s_law_alike) .none kV_law_alike dc_law_alike pm_law_alike an_law_alike cd_law_alike ct_law_alike), sl_law_alike⟩)
    (c_law_alike : PySem.W.codeIn K cd_law_alike "_law_alike" = true)
    (k_law_alike : PySem.W.keepIn K (.ref f_law_alike) = true)
    (a_law_shared : PySem.W.nsIn K mainGlobals "_law_shared" = some (some (.ref f_law_shared)))
    (l_law_shared : K.lookup f_law_shared = some ⟨oc_law_shared, od_law_shared, .func (PySem.W.fnOf "_law_shared" "_law_shared" (defArgs s_law_shared) (defBody s_law_shared) (defScope s_law_shared) .none kV_law_shared dc_law_shared pm_law_shared an_law_shared cd_law_shared ct_law_shared), sl_law_shared⟩)
    (c_law_shared : PySem.W.codeIn K cd_law_shared "_law_shared" = true)
    (k_law_shared : PySem.W.keepIn K (.ref f_law_shared) = true)
    (a_law_lowest : PySem.W.nsIn K mainGlobals "_law_lowest" = some (some (.ref f_law_lowest)))
    (l_law_lowest : K.lookup f_law_lowest = some ⟨oc_law_lowest, od_law_lowest, .func (PySem.W.fnOf "_law_lowest" "_law_lowest" (defArgs s_law_lowest) (defBody s_law_lowest) (defScope s_law_lowest) .none kV_law_lowest dc_law_lowest pm_law_lowest an_law_lowest cd_law_lowest ct_law_lowest), sl_law_lowest⟩)
    (c_law_lowest : PySem.W.codeIn K cd_law_lowest "_law_lowest" = true)
    (k_law_lowest : PySem.W.keepIn K (.ref f_law_lowest) = true)
    (a_law_signs : PySem.W.nsIn K mainGlobals "_law_signs" = some (some (.ref f_law_signs)))
    (l_law_signs : K.lookup f_law_signs = some ⟨oc_law_signs, od_law_signs, .func (PySem.W.fnOf "_law_signs" "_law_signs" (defArgs s_law_signs) (defBody s_law_signs) (defScope s_law_signs) .none kV_law_signs dc_law_signs pm_law_signs an_law_signs cd_law_signs ct_law_signs), sl_law_signs⟩)
    (c_law_signs : PySem.W.codeIn K cd_law_signs "_law_signs" = true)
    (k_law_signs : PySem.W.keepIn K (.ref f_law_signs) = true)
    (a_law_figures : PySem.W.nsIn K mainGlobals "_law_figures" = some (some (.ref f_law_figures)))
    (l_law_figures : K.lookup f_law_figures = some ⟨oc_law_figures, od_law_figures, .func (PySem.W.fnOf "_law_figures" "_law_figures" (defArgs s_law_figures) (defBody s_law_figures) (defScope s_law_figures) .none kV_law_figures dc_law_figures pm_law_figures an_law_figures cd_law_figures ct_law_figures), sl_law_figures⟩)
    (c_law_figures : PySem.W.codeIn K cd_law_figures "_law_figures" = true)
    (k_law_figures : PySem.W.keepIn K (.ref f_law_figures) = true)
    (a_law_in : PySem.W.nsIn K mainGlobals "_law_in" = some (some (.ref f_law_in)))
    (l_law_in : K.lookup f_law_in = some ⟨oc_law_in, od_law_in, .func (PySem.W.fnOf "_law_in" "_law_in" (defArgs s_law_in) (defBody s_law_in) (defScope s_law_in) .none kV_law_in dc_law_in pm_law_in an_law_in cd_law_in ct_law_in), sl_law_in⟩)
    (c_law_in : PySem.W.codeIn K cd_law_in "_law_in" = true)
    (k_law_in : PySem.W.keepIn K (.ref f_law_in) = true)
    (a_law_spoilt : PySem.W.nsIn K mainGlobals "_law_spoilt" = some (some (.ref f_law_spoilt)))
    (l_law_spoilt : K.lookup f_law_spoilt = some ⟨oc_law_spoilt, od_law_spoilt, .func (PySem.W.fnOf "_law_spoilt" "_law_spoilt" (defArgs s_law_spoilt) (defBody s_law_spoilt) (defScope s_law_spoilt) .none kV_law_spoilt dc_law_spoilt pm_law_spoilt an_law_spoilt cd_law_spoilt ct_law_spoilt), sl_law_spoilt⟩)
    (c_law_spoilt : PySem.W.codeIn K cd_law_spoilt "_law_spoilt" = true)
    (k_law_spoilt : PySem.W.keepIn K (.ref f_law_spoilt) = true)
    (a_law_heard : PySem.W.nsIn K mainGlobals "_law_heard" = some (some (.ref f_law_heard)))
    (l_law_heard : K.lookup f_law_heard = some ⟨oc_law_heard, od_law_heard, .func (PySem.W.fnOf "_law_heard" "_law_heard" (defArgs s_law_heard) (defBody s_law_heard) (defScope s_law_heard) .none kV_law_heard dc_law_heard pm_law_heard an_law_heard cd_law_heard ct_law_heard), sl_law_heard⟩)
    (c_law_heard : PySem.W.codeIn K cd_law_heard "_law_heard" = true)
    (k_law_heard : PySem.W.keepIn K (.ref f_law_heard) = true)
    (a_law_right : PySem.W.nsIn K mainGlobals "_law_right" = some (some (.ref f_law_right)))
    (l_law_right : K.lookup f_law_right = some ⟨oc_law_right, od_law_right, .func (PySem.W.fnOf "_law_right" "_law_right" (defArgs s_law_right) (defBody s_law_right) (defScope s_law_right) .none kV_law_right dc_law_right pm_law_right an_law_right cd_law_right ct_law_right), sl_law_right⟩)
    (c_law_right : PySem.W.codeIn K cd_law_right "_law_right" = true)
    (k_law_right : PySem.W.keepIn K (.ref f_law_right) = true)
    (a_law : PySem.W.nsIn K mainGlobals "law" = some (some (.ref f_law)))
    (l_law : K.lookup f_law = some ⟨oc_law, od_law, .func (PySem.W.fnOf "law" "law" (defArgs s_law) (defBody s_law) (defScope s_law) .none kV_law dc_law pm_law an_law cd_law ct_law), sl_law⟩)
    (c_law : PySem.W.codeIn K cd_law "law" = true)
    (k_law : PySem.W.keepIn K (.ref f_law) = true)
    (zb_IndexError : PySem.W.nsIn K mainGlobals "IndexError" = some none)
    (zb_KeyError : PySem.W.nsIn K mainGlobals "KeyError" = some none)
    (zb_ValueError : PySem.W.nsIn K mainGlobals "ValueError" = some none)
    (zb_ZeroDivisionError : PySem.W.nsIn K mainGlobals "ZeroDivisionError" = some none)
    (zb_abs : PySem.W.nsIn K mainGlobals "abs" = some none)
    (zb_all : PySem.W.nsIn K mainGlobals "all" = some none)
    (zb_bool : PySem.W.nsIn K mainGlobals "bool" = some none)
    (zb_int : PySem.W.nsIn K mainGlobals "int" = some none)
    (zb_isinstance : PySem.W.nsIn K mainGlobals "isinstance" = some none)
    (zb_len : PySem.W.nsIn K mainGlobals "len" = some none)
    (zb_list : PySem.W.nsIn K mainGlobals "list" = some none)
    (zb_max : PySem.W.nsIn K mainGlobals "max" = some none)
    (zb_min : PySem.W.nsIn K mainGlobals "min" = some none)
    (zb_range : PySem.W.nsIn K mainGlobals "range" = some none)
    (zb_str : PySem.W.nsIn K mainGlobals "str" = some none)
    (zb_tuple : PySem.W.nsIn K mainGlobals "tuple" = some none)
    (zb_zip : PySem.W.nsIn K mainGlobals "zip" = some none)
    : ∃ T : Txt K mg, T.a_law = f_law ∧ ∀ (s : Shared) (v : Value), BindsTo s T.d_law ⟨[v], []⟩ [("_law_script", v)] := by
  refine ⟨{
    a_BoughError := C_BoughError,
    m_BoughError := PySem.W.mg_of X G ac_BoughError,
    x_BoughError := ⟨⟨_, _, _, _, _, _, _, _, _, _, _, _, _, _, _, xl_BoughError, fun Y => rfl⟩, xe_BoughError, xt_BoughError, xk_BoughError⟩,
    i0_BoughError := xi_BoughError,
    t0_BoughError := xt_BoughError,
    s0_BoughError := xs_BoughError,
    e_BoughError := exm_self xe_BoughError xi_BoughError xt_BoughError xs_BoughError,
    c_BoughError := ⟨g1_BoughError, g2_BoughError, xe_BoughError, g3_BoughError, g4_BoughError, g5_BoughError, g6_BoughError, g7_BoughError⟩,
    h_BoughError := ⟨h1_BoughError, h2_BoughError, h3_BoughError⟩,
    a_NoText := C_NoText,
    m_NoText := PySem.W.mg_of X G ac_NoText,
    x_NoText := ⟨⟨_, _, _, _, _, _, _, _, _, _, _, _, _, _, _, xl_NoText, fun Y => rfl⟩, xe_NoText, xt_NoText, xk_NoText⟩,
    i0_NoText := xi_NoText,
    t0_NoText := xt_NoText,
    s0_NoText := xs_NoText,
    e_NoText := exm_self xe_NoText xi_NoText xt_NoText xs_NoText,
    c_NoText := ⟨g1_NoText, g2_NoText, xe_NoText, g3_NoText, g4_NoText, g5_NoText, g6_NoText, g7_NoText⟩,
    aI_NoText := fI_NoText,
    dI_NoText := _,
    FI_NoText := fun_mk (st := sI_NoText) lI_NoText cI_NoText kI_NoText,
    bI_NoText := (fun_mk (st := sI_NoText) lI_NoText cI_NoText kI_NoText).binds (ps := ["self", "row"]) fun _ _ _ _ _ _ us hl => match us, hl with | [_, _], _ => rfl,
    i_NoText := iI_NoText,
    t_NoText := tI_NoText,
    o_NoText := ⟨⟨_, _, _, _, _, _, _, _, _, _, _, _, _, _, _, xl_NoText, rfl⟩, sa_NoText, xe_NoText, xt_NoText, xk_NoText⟩,
    n_NoText_row := nf_NoText_row,
    a_NoWood := C_NoWood,
    m_NoWood := PySem.W.mg_of X G ac_NoWood,
    x_NoWood := ⟨⟨_, _, _, _, _, _, _, _, _, _, _, _, _, _, _, xl_NoWood, fun Y => rfl⟩, xe_NoWood, xt_NoWood, xk_NoWood⟩,
    i0_NoWood := xi_NoWood,
    t0_NoWood := xt_NoWood,
    s0_NoWood := xs_NoWood,
    e_NoWood := exm_self xe_NoWood xi_NoWood xt_NoWood xs_NoWood,
    c_NoWood := ⟨g1_NoWood, g2_NoWood, xe_NoWood, g3_NoWood, g4_NoWood, g5_NoWood, g6_NoWood, g7_NoWood⟩,
    aI_NoWood := fI_NoWood,
    dI_NoWood := _,
    FI_NoWood := fun_mk (st := sI_NoWood) lI_NoWood cI_NoWood kI_NoWood,
    bI_NoWood := (fun_mk (st := sI_NoWood) lI_NoWood cI_NoWood kI_NoWood).binds (ps := ["self", "word", "name"]) fun _ _ _ _ _ _ us hl => match us, hl with | [_, _, _], _ => rfl,
    i_NoWood := iI_NoWood,
    t_NoWood := tI_NoWood,
    o_NoWood := ⟨⟨_, _, _, _, _, _, _, _, _, _, _, _, _, _, _, xl_NoWood, rfl⟩, sa_NoWood, xe_NoWood, xt_NoWood, xk_NoWood⟩,
    n_NoWood_word := nf_NoWood_word,
    n_NoWood_name := nf_NoWood_name,
    a_NoTree := C_NoTree,
    m_NoTree := PySem.W.mg_of X G ac_NoTree,
    x_NoTree := ⟨⟨_, _, _, _, _, _, _, _, _, _, _, _, _, _, _, xl_NoTree, fun Y => rfl⟩, xe_NoTree, xt_NoTree, xk_NoTree⟩,
    i0_NoTree := xi_NoTree,
    t0_NoTree := xt_NoTree,
    s0_NoTree := xs_NoTree,
    e_NoTree := exm_self xe_NoTree xi_NoTree xt_NoTree xs_NoTree,
    c_NoTree := ⟨g1_NoTree, g2_NoTree, xe_NoTree, g3_NoTree, g4_NoTree, g5_NoTree, g6_NoTree, g7_NoTree⟩,
    aI_NoTree := fI_NoTree,
    dI_NoTree := _,
    FI_NoTree := fun_mk (st := sI_NoTree) lI_NoTree cI_NoTree kI_NoTree,
    bI_NoTree := (fun_mk (st := sI_NoTree) lI_NoTree cI_NoTree kI_NoTree).binds (ps := ["self", "at"]) fun _ _ _ _ _ _ us hl => match us, hl with | [_, _], _ => rfl,
    i_NoTree := iI_NoTree,
    t_NoTree := tI_NoTree,
    o_NoTree := ⟨⟨_, _, _, _, _, _, _, _, _, _, _, _, _, _, _, xl_NoTree, rfl⟩, sa_NoTree, xe_NoTree, xt_NoTree, xk_NoTree⟩,
    n_NoTree_at := nf_NoTree_at,
    a_NoWord := C_NoWord,
    m_NoWord := PySem.W.mg_of X G ac_NoWord,
    x_NoWord := ⟨⟨_, _, _, _, _, _, _, _, _, _, _, _, _, _, _, xl_NoWord, fun Y => rfl⟩, xe_NoWord, xt_NoWord, xk_NoWord⟩,
    i0_NoWord := xi_NoWord,
    t0_NoWord := xt_NoWord,
    s0_NoWord := xs_NoWord,
    e_NoWord := exm_self xe_NoWord xi_NoWord xt_NoWord xs_NoWord,
    c_NoWord := ⟨g1_NoWord, g2_NoWord, xe_NoWord, g3_NoWord, g4_NoWord, g5_NoWord, g6_NoWord, g7_NoWord⟩,
    aI_NoWord := fI_NoWord,
    dI_NoWord := _,
    FI_NoWord := fun_mk (st := sI_NoWord) lI_NoWord cI_NoWord kI_NoWord,
    bI_NoWord := (fun_mk (st := sI_NoWord) lI_NoWord cI_NoWord kI_NoWord).binds (ps := ["self", "at"]) fun _ _ _ _ _ _ us hl => match us, hl with | [_, _], _ => rfl,
    i_NoWord := iI_NoWord,
    t_NoWord := tI_NoWord,
    o_NoWord := ⟨⟨_, _, _, _, _, _, _, _, _, _, _, _, _, _, _, xl_NoWord, rfl⟩, sa_NoWord, xe_NoWord, xt_NoWord, xk_NoWord⟩,
    n_NoWord_at := nf_NoWord_at,
    a_TooLong := C_TooLong,
    m_TooLong := PySem.W.mg_of X G ac_TooLong,
    x_TooLong := ⟨⟨_, _, _, _, _, _, _, _, _, _, _, _, _, _, _, xl_TooLong, fun Y => rfl⟩, xe_TooLong, xt_TooLong, xk_TooLong⟩,
    i0_TooLong := xi_TooLong,
    t0_TooLong := xt_TooLong,
    s0_TooLong := xs_TooLong,
    e_TooLong := exm_self xe_TooLong xi_TooLong xt_TooLong xs_TooLong,
    c_TooLong := ⟨g1_TooLong, g2_TooLong, xe_TooLong, g3_TooLong, g4_TooLong, g5_TooLong, g6_TooLong, g7_TooLong⟩,
    aI_TooLong := fI_TooLong,
    dI_TooLong := _,
    FI_TooLong := fun_mk (st := sI_TooLong) lI_TooLong cI_TooLong kI_TooLong,
    bI_TooLong := (fun_mk (st := sI_TooLong) lI_TooLong cI_TooLong kI_TooLong).binds (ps := ["self", "most"]) fun _ _ _ _ _ _ us hl => match us, hl with | [_, _], _ => rfl,
    i_TooLong := iI_TooLong,
    t_TooLong := tI_TooLong,
    o_TooLong := ⟨⟨_, _, _, _, _, _, _, _, _, _, _, _, _, _, _, xl_TooLong, rfl⟩, sa_TooLong, xe_TooLong, xt_TooLong, xk_TooLong⟩,
    n_TooLong_most := nf_TooLong_most,
    a_NoReader := C_NoReader,
    m_NoReader := PySem.W.mg_of X G ac_NoReader,
    x_NoReader := ⟨⟨_, _, _, _, _, _, _, _, _, _, _, _, _, _, _, xl_NoReader, fun Y => rfl⟩, xe_NoReader, xt_NoReader, xk_NoReader⟩,
    i0_NoReader := xi_NoReader,
    t0_NoReader := xt_NoReader,
    s0_NoReader := xs_NoReader,
    e_NoReader := exm_self xe_NoReader xi_NoReader xt_NoReader xs_NoReader,
    c_NoReader := ⟨g1_NoReader, g2_NoReader, xe_NoReader, g3_NoReader, g4_NoReader, g5_NoReader, g6_NoReader, g7_NoReader⟩,
    aI_NoReader := fI_NoReader,
    dI_NoReader := _,
    FI_NoReader := fun_mk (st := sI_NoReader) lI_NoReader cI_NoReader kI_NoReader,
    bI_NoReader := (fun_mk (st := sI_NoReader) lI_NoReader cI_NoReader kI_NoReader).binds (ps := ["self", "word", "maker"]) fun _ _ _ _ _ _ us hl => match us, hl with | [_, _, _], _ => rfl,
    i_NoReader := iI_NoReader,
    t_NoReader := tI_NoReader,
    o_NoReader := ⟨⟨_, _, _, _, _, _, _, _, _, _, _, _, _, _, _, xl_NoReader, rfl⟩, sa_NoReader, xe_NoReader, xt_NoReader, xk_NoReader⟩,
    n_NoReader_word := nf_NoReader_word,
    n_NoReader_maker := nf_NoReader_maker,
    a_NoFit := C_NoFit,
    m_NoFit := PySem.W.mg_of X G ac_NoFit,
    x_NoFit := ⟨⟨_, _, _, _, _, _, _, _, _, _, _, _, _, _, _, xl_NoFit, fun Y => rfl⟩, xe_NoFit, xt_NoFit, xk_NoFit⟩,
    i0_NoFit := xi_NoFit,
    t0_NoFit := xt_NoFit,
    s0_NoFit := xs_NoFit,
    e_NoFit := exm_self xe_NoFit xi_NoFit xt_NoFit xs_NoFit,
    c_NoFit := ⟨g1_NoFit, g2_NoFit, xe_NoFit, g3_NoFit, g4_NoFit, g5_NoFit, g6_NoFit, g7_NoFit⟩,
    aI_NoFit := fI_NoFit,
    dI_NoFit := _,
    FI_NoFit := fun_mk (st := sI_NoFit) lI_NoFit cI_NoFit kI_NoFit,
    bI_NoFit := (fun_mk (st := sI_NoFit) lI_NoFit cI_NoFit kI_NoFit).binds (ps := ["self", "at"]) fun _ _ _ _ _ _ us hl => match us, hl with | [_, _], _ => rfl,
    i_NoFit := iI_NoFit,
    t_NoFit := tI_NoFit,
    o_NoFit := ⟨⟨_, _, _, _, _, _, _, _, _, _, _, _, _, _, _, xl_NoFit, rfl⟩, sa_NoFit, xe_NoFit, xt_NoFit, xk_NoFit⟩,
    n_NoFit_at := nf_NoFit_at,
    a_NoPrinter := C_NoPrinter,
    m_NoPrinter := PySem.W.mg_of X G ac_NoPrinter,
    x_NoPrinter := ⟨⟨_, _, _, _, _, _, _, _, _, _, _, _, _, _, _, xl_NoPrinter, fun Y => rfl⟩, xe_NoPrinter, xt_NoPrinter, xk_NoPrinter⟩,
    i0_NoPrinter := xi_NoPrinter,
    t0_NoPrinter := xt_NoPrinter,
    s0_NoPrinter := xs_NoPrinter,
    e_NoPrinter := exm_self xe_NoPrinter xi_NoPrinter xt_NoPrinter xs_NoPrinter,
    c_NoPrinter := ⟨g1_NoPrinter, g2_NoPrinter, xe_NoPrinter, g3_NoPrinter, g4_NoPrinter, g5_NoPrinter, g6_NoPrinter, g7_NoPrinter⟩,
    aI_NoPrinter := fI_NoPrinter,
    dI_NoPrinter := _,
    FI_NoPrinter := fun_mk (st := sI_NoPrinter) lI_NoPrinter cI_NoPrinter kI_NoPrinter,
    bI_NoPrinter := (fun_mk (st := sI_NoPrinter) lI_NoPrinter cI_NoPrinter kI_NoPrinter).binds (ps := ["self", "word", "maker"]) fun _ _ _ _ _ _ us hl => match us, hl with | [_, _, _], _ => rfl,
    i_NoPrinter := iI_NoPrinter,
    t_NoPrinter := tI_NoPrinter,
    o_NoPrinter := ⟨⟨_, _, _, _, _, _, _, _, _, _, _, _, _, _, _, xl_NoPrinter, rfl⟩, sa_NoPrinter, xe_NoPrinter, xt_NoPrinter, xk_NoPrinter⟩,
    n_NoPrinter_word := nf_NoPrinter_word,
    n_NoPrinter_maker := nf_NoPrinter_maker,
    a_NoTurner := C_NoTurner,
    m_NoTurner := PySem.W.mg_of X G ac_NoTurner,
    x_NoTurner := ⟨⟨_, _, _, _, _, _, _, _, _, _, _, _, _, _, _, xl_NoTurner, fun Y => rfl⟩, xe_NoTurner, xt_NoTurner, xk_NoTurner⟩,
    i0_NoTurner := xi_NoTurner,
    t0_NoTurner := xt_NoTurner,
    s0_NoTurner := xs_NoTurner,
    e_NoTurner := exm_self xe_NoTurner xi_NoTurner xt_NoTurner xs_NoTurner,
    c_NoTurner := ⟨g1_NoTurner, g2_NoTurner, xe_NoTurner, g3_NoTurner, g4_NoTurner, g5_NoTurner, g6_NoTurner, g7_NoTurner⟩,
    aI_NoTurner := fI_NoTurner,
    dI_NoTurner := _,
    FI_NoTurner := fun_mk (st := sI_NoTurner) lI_NoTurner cI_NoTurner kI_NoTurner,
    bI_NoTurner := (fun_mk (st := sI_NoTurner) lI_NoTurner cI_NoTurner kI_NoTurner).binds (ps := ["self", "word", "maker"]) fun _ _ _ _ _ _ us hl => match us, hl with | [_, _, _], _ => rfl,
    i_NoTurner := iI_NoTurner,
    t_NoTurner := tI_NoTurner,
    o_NoTurner := ⟨⟨_, _, _, _, _, _, _, _, _, _, _, _, _, _, _, xl_NoTurner, rfl⟩, sa_NoTurner, xe_NoTurner, xt_NoTurner, xk_NoTurner⟩,
    n_NoTurner_word := nf_NoTurner_word,
    n_NoTurner_maker := nf_NoTurner_maker,
    a_TooWide := C_TooWide,
    m_TooWide := PySem.W.mg_of X G ac_TooWide,
    x_TooWide := ⟨⟨_, _, _, _, _, _, _, _, _, _, _, _, _, _, _, xl_TooWide, fun Y => rfl⟩, xe_TooWide, xt_TooWide, xk_TooWide⟩,
    i0_TooWide := xi_TooWide,
    t0_TooWide := xt_TooWide,
    s0_TooWide := xs_TooWide,
    e_TooWide := exm_self xe_TooWide xi_TooWide xt_TooWide xs_TooWide,
    c_TooWide := ⟨g1_TooWide, g2_TooWide, xe_TooWide, g3_TooWide, g4_TooWide, g5_TooWide, g6_TooWide, g7_TooWide⟩,
    aI_TooWide := fI_TooWide,
    dI_TooWide := _,
    FI_TooWide := fun_mk (st := sI_TooWide) lI_TooWide cI_TooWide kI_TooWide,
    bI_TooWide := (fun_mk (st := sI_TooWide) lI_TooWide cI_TooWide kI_TooWide).binds (ps := ["self", "rooms"]) fun _ _ _ _ _ _ us hl => match us, hl with | [_, _], _ => rfl,
    i_TooWide := iI_TooWide,
    t_TooWide := tI_TooWide,
    o_TooWide := ⟨⟨_, _, _, _, _, _, _, _, _, _, _, _, _, _, _, xl_TooWide, rfl⟩, sa_TooWide, xe_TooWide, xt_TooWide, xk_TooWide⟩,
    n_TooWide_rooms := nf_TooWide_rooms,
    a_NoRow := C_NoRow,
    m_NoRow := PySem.W.mg_of X G ac_NoRow,
    x_NoRow := ⟨⟨_, _, _, _, _, _, _, _, _, _, _, _, _, _, _, xl_NoRow, fun Y => rfl⟩, xe_NoRow, xt_NoRow, xk_NoRow⟩,
    i0_NoRow := xi_NoRow,
    t0_NoRow := xt_NoRow,
    s0_NoRow := xs_NoRow,
    e_NoRow := exm_self xe_NoRow xi_NoRow xt_NoRow xs_NoRow,
    c_NoRow := ⟨g1_NoRow, g2_NoRow, xe_NoRow, g3_NoRow, g4_NoRow, g5_NoRow, g6_NoRow, g7_NoRow⟩,
    aI_NoRow := fI_NoRow,
    dI_NoRow := _,
    FI_NoRow := fun_mk (st := sI_NoRow) lI_NoRow cI_NoRow kI_NoRow,
    bI_NoRow := (fun_mk (st := sI_NoRow) lI_NoRow cI_NoRow kI_NoRow).binds (ps := ["self"]) fun _ _ _ _ _ _ us hl => match us, hl with | [_], _ => rfl,
    i_NoRow := iI_NoRow,
    t_NoRow := tI_NoRow,
    a_Nought := C_Nought,
    m_Nought := PySem.W.mg_of X G ac_Nought,
    x_Nought := ⟨⟨_, _, _, _, _, _, _, _, _, _, _, _, _, _, _, xl_Nought, fun Y => rfl⟩, xe_Nought, xt_Nought, xk_Nought⟩,
    i0_Nought := xi_Nought,
    t0_Nought := xt_Nought,
    s0_Nought := xs_Nought,
    e_Nought := exm_self xe_Nought xi_Nought xt_Nought xs_Nought,
    c_Nought := ⟨g1_Nought, g2_Nought, xe_Nought, g3_Nought, g4_Nought, g5_Nought, g6_Nought, g7_Nought⟩,
    aI_Nought := fI_Nought,
    dI_Nought := _,
    FI_Nought := fun_mk (st := sI_Nought) lI_Nought cI_Nought kI_Nought,
    bI_Nought := (fun_mk (st := sI_Nought) lI_Nought cI_Nought kI_Nought).binds (ps := ["self"]) fun _ _ _ _ _ _ us hl => match us, hl with | [_], _ => rfl,
    i_Nought := iI_Nought,
    t_Nought := tI_Nought,
    a_NotKept := C_NotKept,
    m_NotKept := PySem.W.mg_of X G ac_NotKept,
    i0_NotKept := xi_NotKept,
    t0_NotKept := xt_NotKept,
    s0_NotKept := xs_NotKept,
    e_NotKept := exm_self xe_NotKept xi_NotKept xt_NotKept xs_NotKept,
    c_NotKept := ⟨g1_NotKept, g2_NotKept, xe_NotKept, g3_NotKept, g4_NotKept, g5_NotKept, g6_NotKept, g7_NotKept⟩,
    aI_NotKept := fI_NotKept,
    dI_NotKept := _,
    FI_NotKept := fun_mk (st := sI_NotKept) lI_NotKept cI_NotKept kI_NotKept,
    bI_NotKept := (fun_mk (st := sI_NotKept) lI_NotKept cI_NotKept kI_NotKept).binds (ps := ["self", "name"]) fun _ _ _ _ _ _ us hl => match us, hl with | [_, _], _ => rfl,
    i_NotKept := iI_NotKept,
    t_NotKept := tI_NotKept,
    n_NotKept_name := nf_NotKept_name,
    a_NoBox := C_NoBox,
    m_NoBox := PySem.W.mg_of X G ac_NoBox,
    i0_NoBox := xi_NoBox,
    t0_NoBox := xt_NoBox,
    s0_NoBox := xs_NoBox,
    e_NoBox := exm_self xe_NoBox xi_NoBox xt_NoBox xs_NoBox,
    c_NoBox := ⟨g1_NoBox, g2_NoBox, xe_NoBox, g3_NoBox, g4_NoBox, g5_NoBox, g6_NoBox, g7_NoBox⟩,
    aI_NoBox := fI_NoBox,
    dI_NoBox := _,
    FI_NoBox := fun_mk (st := sI_NoBox) lI_NoBox cI_NoBox kI_NoBox,
    bI_NoBox := (fun_mk (st := sI_NoBox) lI_NoBox cI_NoBox kI_NoBox).binds (ps := ["self", "box"]) fun _ _ _ _ _ _ us hl => match us, hl with | [_, _], _ => rfl,
    i_NoBox := iI_NoBox,
    t_NoBox := tI_NoBox,
    n_NoBox_box := nf_NoBox_box,
    v_IndexError := vb_IndexError,
    v_KeyError := vb_KeyError,
    v_ValueError := vb_ValueError,
    v_ZeroDivisionError := vb_ZeroDivisionError,
    lim := Lim.of lkS okS noS,
    hE := yhE,
    hV := yhV,
    h0 := yh0,
    h1 := yh1,
    h2 := yh2,
    h3 := yh3,
    h4 := yh4,
    h5 := yh5,
    h6 := yh6,
    h7 := yh7,
    h8 := yh8,
    h9 := yh9,
    h10 := yh10,
    h11 := yh11,
    h12 := yh12,
    m_FIGURES := ⟨_, PySem.W.mg_of X G mc_FIGURES, ⟨_, rfl⟩⟩,
    m_MOST_FIGURES := ⟨_, PySem.W.mg_of X G mc_MOST_FIGURES, ⟨_, rfl⟩⟩,
    a_common_part := f_common_part,
    d_common_part := _,
    m_common_part := PySem.W.mg_of X G a_common_part,
    F_common_part := fun_mk (st := s_common_part) l_common_part c_common_part k_common_part,
    b_common_part := (fun_mk (st := s_common_part) l_common_part c_common_part k_common_part).binds (ps := ["one", "other"]) fun _ _ _ _ _ _ us hl => match us, hl with | [_, _], _ => rfl,
    a_fraction_of := f_fraction_of,
    d_fraction_of := _,
    m_fraction_of := PySem.W.mg_of X G a_fraction_of,
    F_fraction_of := (FunD.mk ⟨_, _, _, _, _, _, _, _, _, _, rfl, l_fraction_of, c_fraction_of, .inr ⟨by simp, _, _, [.int 1 dk_fraction_of0], _, rfl, t_fraction_of, rfl, (.cons ⟨_, rfl⟩ .nil)⟩, .inl rfl⟩ k_fraction_of : FunD K "fraction_of" "fraction_of" (defArgs s_fraction_of) (defBody s_fraction_of) (defScope s_fraction_of) [.int 1] [] f_fraction_of _),
    b_fraction_of := binds_all ((FunD.mk ⟨_, _, _, _, _, _, _, _, _, _, rfl, l_fraction_of, c_fraction_of, .inr ⟨by simp, _, _, [.int 1 dk_fraction_of0], _, rfl, t_fraction_of, rfl, (.cons ⟨_, rfl⟩ .nil)⟩, .inl rfl⟩ k_fraction_of : FunD K "fraction_of" "fraction_of" (defArgs s_fraction_of) (defBody s_fraction_of) (defScope s_fraction_of) [.int 1] [] f_fraction_of _).binds1 (ps := ["upper", "lower"]) 2 1 (by simp) rfl fun _ _ _ _ _ _ _ us its hl hi => match us, hl, its, hi with | [_, _], _, [_], _ => ⟨_, rfl, rfl⟩),
    bv_fraction_of1 := (FunD.mk ⟨_, _, _, _, _, _, _, _, _, _, rfl, l_fraction_of, c_fraction_of, .inr ⟨by simp, _, _, [.int 1 dk_fraction_of0], _, rfl, t_fraction_of, rfl, (.cons ⟨_, rfl⟩ .nil)⟩, .inl rfl⟩ k_fraction_of : FunD K "fraction_of" "fraction_of" (defArgs s_fraction_of) (defBody s_fraction_of) (defScope s_fraction_of) [.int 1] [] f_fraction_of _).binds1 (ps := ["upper", "lower"]) 1 0 (by simp) rfl fun _ _ _ _ _ _ _ us its hl hi => match us, hl, its, hi with | [_], _, [_], _ => ⟨_, rfl, rfl⟩,
    a_show_fraction := f_show_fraction,
    d_show_fraction := _,
    m_show_fraction := PySem.W.mg_of X G a_show_fraction,
    F_show_fraction := fun_mk (st := s_show_fraction) l_show_fraction c_show_fraction k_show_fraction,
    b_show_fraction := (fun_mk (st := s_show_fraction) l_show_fraction c_show_fraction k_show_fraction).binds (ps := ["one"]) fun _ _ _ _ _ _ us hl => match us, hl with | [_], _ => rfl,
    a_is_figures := f_is_figures,
    d_is_figures := _,
    m_is_figures := PySem.W.mg_of X G a_is_figures,
    F_is_figures := fun_mk (st := s_is_figures) l_is_figures c_is_figures k_is_figures,
    b_is_figures := (fun_mk (st := s_is_figures) l_is_figures c_is_figures k_is_figures).binds (ps := ["text"]) fun _ _ _ _ _ _ us hl => match us, hl with | [_], _ => rfl,
    a_read_fraction := f_read_fraction,
    d_read_fraction := _,
    m_read_fraction := PySem.W.mg_of X G a_read_fraction,
    F_read_fraction := fun_mk (st := s_read_fraction) l_read_fraction c_read_fraction k_read_fraction,
    b_read_fraction := (fun_mk (st := s_read_fraction) l_read_fraction c_read_fraction k_read_fraction).binds (ps := ["text"]) fun _ _ _ _ _ _ us hl => match us, hl with | [_], _ => rfl,
    a_law_box := f_law_box,
    d_law_box := _,
    m_law_box := PySem.W.mg_of X G a_law_box,
    F_law_box := fun_mk (st := s_law_box) l_law_box c_law_box k_law_box,
    b_law_box := (fun_mk (st := s_law_box) l_law_box c_law_box k_law_box).binds (ps := ["_law_script", "_law_k"]) fun _ _ _ _ _ _ us hl => match us, hl with | [_, _], _ => rfl,
    a_law_take := f_law_take,
    d_law_take := _,
    m_law_take := PySem.W.mg_of X G a_law_take,
    F_law_take := fun_mk (st := s_law_take) l_law_take c_law_take k_law_take,
    b_law_take := (fun_mk (st := s_law_take) l_law_take c_law_take k_law_take).binds (ps := ["_law_box_here", "_law_many"]) fun _ _ _ _ _ _ us hl => match us, hl with | [_, _], _ => rfl,
    a_law_alike := f_law_alike,
    d_law_alike := _,
    m_law_alike := PySem.W.mg_of X G a_law_alike,
    F_law_alike := fun_mk (st := s_law_alike) l_law_alike c_law_alike k_law_alike,
    b_law_alike := (fun_mk (st := s_law_alike) l_law_alike c_law_alike k_law_alike).binds (ps := ["_law_found", "_law_due"]) fun _ _ _ _ _ _ us hl => match us, hl with | [_, _], _ => rfl,
    a_law_shared := f_law_shared,
    d_law_shared := _,
    m_law_shared := PySem.W.mg_of X G a_law_shared,
    F_law_shared := fun_mk (st := s_law_shared) l_law_shared c_law_shared k_law_shared,
    b_law_shared := (fun_mk (st := s_law_shared) l_law_shared c_law_shared k_law_shared).binds (ps := ["_law_one", "_law_other"]) fun _ _ _ _ _ _ us hl => match us, hl with | [_, _], _ => rfl,
    a_law_lowest := f_law_lowest,
    d_law_lowest := _,
    m_law_lowest := PySem.W.mg_of X G a_law_lowest,
    F_law_lowest := fun_mk (st := s_law_lowest) l_law_lowest c_law_lowest k_law_lowest,
    b_law_lowest := (fun_mk (st := s_law_lowest) l_law_lowest c_law_lowest k_law_lowest).binds (ps := ["_law_upper", "_law_lower"]) fun _ _ _ _ _ _ us hl => match us, hl with | [_, _], _ => rfl,
    a_law_signs := f_law_signs,
    d_law_signs := _,
    m_law_signs := PySem.W.mg_of X G a_law_signs,
    F_law_signs := fun_mk (st := s_law_signs) l_law_signs c_law_signs k_law_signs,
    b_law_signs := (fun_mk (st := s_law_signs) l_law_signs c_law_signs k_law_signs).binds (ps := []) fun _ _ _ _ _ _ us hl => match us, hl with | [], _ => rfl,
    a_law_figures := f_law_figures,
    d_law_figures := _,
    m_law_figures := PySem.W.mg_of X G a_law_figures,
    F_law_figures := fun_mk (st := s_law_figures) l_law_figures c_law_figures k_law_figures,
    b_law_figures := (fun_mk (st := s_law_figures) l_law_figures c_law_figures k_law_figures).binds (ps := ["_law_text"]) fun _ _ _ _ _ _ us hl => match us, hl with | [_], _ => rfl,
    a_law_in := f_law_in,
    d_law_in := _,
    m_law_in := PySem.W.mg_of X G a_law_in,
    F_law_in := fun_mk (st := s_law_in) l_law_in c_law_in k_law_in,
    b_law_in := (fun_mk (st := s_law_in) l_law_in c_law_in k_law_in).binds (ps := ["_law_text"]) fun _ _ _ _ _ _ us hl => match us, hl with | [_], _ => rfl,
    a_law_spoilt := f_law_spoilt,
    d_law_spoilt := _,
    m_law_spoilt := PySem.W.mg_of X G a_law_spoilt,
    F_law_spoilt := fun_mk (st := s_law_spoilt) l_law_spoilt c_law_spoilt k_law_spoilt,
    b_law_spoilt := (fun_mk (st := s_law_spoilt) l_law_spoilt c_law_spoilt k_law_spoilt).binds (ps := ["_law_box_here", "_law_text"]) fun _ _ _ _ _ _ us hl => match us, hl with | [_, _], _ => rfl,
    a_law_heard := f_law_heard,
    d_law_heard := _,
    m_law_heard := PySem.W.mg_of X G a_law_heard,
    F_law_heard := fun_mk (st := s_law_heard) l_law_heard c_law_heard k_law_heard,
    b_law_heard := (fun_mk (st := s_law_heard) l_law_heard c_law_heard k_law_heard).binds (ps := ["_law_text"]) fun _ _ _ _ _ _ us hl => match us, hl with | [_], _ => rfl,
    a_law_right := f_law_right,
    d_law_right := _,
    m_law_right := PySem.W.mg_of X G a_law_right,
    F_law_right := fun_mk (st := s_law_right) l_law_right c_law_right k_law_right,
    b_law_right := (fun_mk (st := s_law_right) l_law_right c_law_right k_law_right).binds (ps := ["_law_text"]) fun _ _ _ _ _ _ us hl => match us, hl with | [_], _ => rfl,
    a_law := f_law,
    d_law := _,
    m_law := PySem.W.mg_of X G a_law,
    F_law := fun_mk (st := s_law) l_law c_law k_law,
    b_law := (fun_mk (st := s_law) l_law c_law k_law).binds (ps := ["_law_script"]) fun _ _ _ _ _ _ us hl => match us, hl with | [_], _ => rfl,
    z_IndexError := PySem.W.mg_none_of X G zb_IndexError,
    z_KeyError := PySem.W.mg_none_of X G zb_KeyError,
    z_ValueError := PySem.W.mg_none_of X G zb_ValueError,
    z_ZeroDivisionError := PySem.W.mg_none_of X G zb_ZeroDivisionError,
    z_abs := PySem.W.mg_none_of X G zb_abs,
    z_all := PySem.W.mg_none_of X G zb_all,
    z_bool := PySem.W.mg_none_of X G zb_bool,
    z_int := PySem.W.mg_none_of X G zb_int,
    z_isinstance := PySem.W.mg_none_of X G zb_isinstance,
    z_len := PySem.W.mg_none_of X G zb_len,
    z_list := PySem.W.mg_none_of X G zb_list,
    z_max := PySem.W.mg_none_of X G zb_max,
    z_min := PySem.W.mg_none_of X G zb_min,
    z_range := PySem.W.mg_none_of X G zb_range,
    z_str := PySem.W.mg_none_of X G zb_str,
    z_tuple := PySem.W.mg_none_of X G zb_tuple,
    z_zip := PySem.W.mg_none_of X G zb_zip }, rfl, fun s v => .of_eq rfl⟩
end Lw
namespace Lw
open PySem PySem.Spec PyProof.Rows L2 Bk
theorem walk {l : PySem.W.OpenLaw} {q : Program} {loose : List Str} {XP : (Str → Option Value) → Heap → Prop} {YP : World → Heap → Prop} {d : DefRec} {K : Params → PySem.W.Frag} (hn : l.most = some 63) (hdf : d.params.defaults = [])
    (hY : ∀ (w : World) (h : Heap), YP w h → (K w.params).In h)
    (F : ∀ (w : World) (mg : Str → Option Value) (fa : Addr) (h : Heap), (K w.params).In h → h.Ns mainGlobals mg → mg d.name = some (.ref fa) →
      ∃ fd : FuncData, (∀ (s : Shared) (u : Value), BindsTo s fd ⟨[u], []⟩ [("_law_script", u)]) ∧ ∀ base : Heap, (K w.params).In base → base.Ns mainGlobals mg → FnOk l.prog w (K w.params) mg base (L2.CX l.prog w) 7 fa fd ["_law_script"] (spLaw (K w.params))) :
    PySem.W.WalkO q loose XP YP l.row.toRowW d [] (fun f vs => PySem.call f vs) :=
  L2.walk_of (n := 63) (k := 7) (x := "_law_script") (CX := fun w => L2.CX l.prog w) (sp := fun w => spLaw (K w.params)) hn (by decide) hdf ⟨rfl, by decide, by decide⟩ hY F (fun _ _ a ns hl hO hS => spLaw_of hO hS hl) fun _ _ _ _ _ z => cx_false z
theorem fin {P : Program} {w : World} {K : PySem.W.Frag} {mg : Str → Option Value} {fa f : Addr} (hmg : mg "law" = some (.ref fa)) (z : ∃ T : Txt K mg, T.a_law = f ∧ ∀ (s : Shared) (v : Value), BindsTo s T.d_law ⟨[v], []⟩ [("_law_script", v)]) :
    ∃ fd : FuncData, (∀ (s : Shared) (u : Value), BindsTo s fd ⟨[u], []⟩ [("_law_script", u)]) ∧ ∀ base : Heap, K.In base → base.Ns mainGlobals mg → FnOk P w K mg base (L2.CX P w) 7 fa fd ["_law_script"] (spLaw K) := by
  obtain ⟨T, ea, hb⟩ := z
  refine ⟨T.d_law, hb, fun base _ _ => ?_⟩
  have e := hmg.symm.trans T.m_law
  cases e
  exact ok_law T
end Lw
open PySem PySem.W PyProof.Rows
set_option maxRecDepth 100000 in
set_option maxHeartbeats 0 in
theorem PySem.Challenge.cw_boughkept_k02_fractions_written_holds : PySem.Challenge.rw_boughkept_k02_fractions_written.Holds := by
  w_on; o_law; k_head; (case hw => w_witness2)
  k_fill
  refine Lw.walk (l := PySem.Challenge.rw_boughkept_k02_fractions_written) rfl rfl (fun w h Y => PySem.W.kIn_of Y) ?F
  case F =>
    intro w mg fa h KX G hmg
    refine' Lw.fin hmg (Lw.mk_txt KX G ?ac_BoughError ?xl_BoughError ?xe_BoughError ?xt_BoughError ?xk_BoughError ?xi_BoughError ?xs_BoughError ?g1_BoughError ?g2_BoughError ?g3_BoughError ?g4_BoughError ?g5_BoughError ?g6_BoughError ?g7_BoughError ?h1_BoughError ?h2_BoughError ?h3_BoughError ?ac_NoText ?xl_NoText ?xe_NoText ?xt_NoText ?xk_NoText ?xi_NoText ?xs_NoText ?g1_NoText ?g2_NoText ?g3_NoText ?g4_NoText ?g5_NoText ?g6_NoText ?g7_NoText ?iI_NoText ?tI_NoText ?lI_NoText ?cI_NoText ?kI_NoText ?sa_NoText ?nf_NoText_row ?ac_NoWood ?xl_NoWood ?xe_NoWood ?xt_NoWood ?xk_NoWood ?xi_NoWood ?xs_NoWood ?g1_NoWood ?g2_NoWood ?g3_NoWood ?g4_NoWood ?g5_NoWood ?g6_NoWood ?g7_NoWood ?iI_NoWood ?tI_NoWood ?lI_NoWood ?cI_NoWood ?kI_NoWood ?sa_NoWood ?nf_NoWood_word ?nf_NoWood_name ?ac_NoTree ?xl_NoTree ?xe_NoTree ?xt_NoTree ?xk_NoTree ?xi_NoTree ?xs_NoTree ?g1_NoTree ?g2_NoTree ?g3_NoTree ?g4_NoTree ?g5_NoTree ?g6_NoTree ?g7_NoTree ?iI_NoTree ?tI_NoTree ?lI_NoTree ?cI_NoTree ?kI_NoTree ?sa_NoTree ?nf_NoTree_at ?ac_NoWord ?xl_NoWord ?xe_NoWord ?xt_NoWord ?xk_NoWord ?xi_NoWord ?xs_NoWord ?g1_NoWord ?g2_NoWord ?g3_NoWord ?g4_NoWord ?g5_NoWord ?g6_NoWord ?g7_NoWord ?iI_NoWord ?tI_NoWord ?lI_NoWord ?cI_NoWord ?kI_NoWord ?sa_NoWord ?nf_NoWord_at ?ac_TooLong ?xl_TooLong ?xe_TooLong ?xt_TooLong ?xk_TooLong ?xi_TooLong ?xs_TooLong ?g1_TooLong ?g2_TooLong ?g3_TooLong ?g4_TooLong ?g5_TooLong ?g6_TooLong ?g7_TooLong ?iI_TooLong ?tI_TooLong ?lI_TooLong ?cI_TooLong ?kI_TooLong ?sa_TooLong ?nf_TooLong_most ?ac_NoReader ?xl_NoReader ?xe_NoReader ?xt_NoReader ?xk_NoReader ?xi_NoReader ?xs_NoReader ?g1_NoReader ?g2_NoReader ?g3_NoReader ?g4_NoReader ?g5_NoReader ?g6_NoReader ?g7_NoReader ?iI_NoReader ?tI_NoReader ?lI_NoReader ?cI_NoReader ?kI_NoReader ?sa_NoReader ?nf_NoReader_word ?nf_NoReader_maker ?ac_NoFit ?xl_NoFit ?xe_NoFit ?xt_NoFit ?xk_NoFit ?xi_NoFit ?xs_NoFit ?g1_NoFit ?g2_NoFit ?g3_NoFit ?g4_NoFit ?g5_NoFit ?g6_NoFit ?g7_NoFit ?iI_NoFit ?tI_NoFit ?lI_NoFit ?cI_NoFit ?kI_NoFit ?sa_NoFit ?nf_NoFit_at ?ac_NoPrinter ?xl_NoPrinter ?xe_NoPrinter ?xt_NoPrinter ?xk_NoPrinter ?xi_NoPrinter ?xs_NoPrinter ?g1_NoPrinter ?g2_NoPrinter ?g3_NoPrinter ?g4_NoPrinter ?g5_NoPrinter ?g6_NoPrinter ?g7_NoPrinter ?iI_NoPrinter ?tI_NoPrinter ?lI_NoPrinter ?cI_NoPrinter ?kI_NoPrinter ?sa_NoPrinter ?nf_NoPrinter_word ?nf_NoPrinter_maker ?ac_NoTurner ?xl_NoTurner ?xe_NoTurner ?xt_NoTurner ?xk_NoTurner ?xi_NoTurner ?xs_NoTurner ?g1_NoTurner ?g2_NoTurner ?g3_NoTurner ?g4_NoTurner ?g5_NoTurner ?g6_NoTurner ?g7_NoTurner ?iI_NoTurner ?tI_NoTurner ?lI_NoTurner ?cI_NoTurner ?kI_NoTurner ?sa_NoTurner ?nf_NoTurner_word ?nf_NoTurner_maker ?ac_TooWide ?xl_TooWide ?xe_TooWide ?xt_TooWide ?xk_TooWide ?xi_TooWide ?xs_TooWide ?g1_TooWide ?g2_TooWide ?g3_TooWide ?g4_TooWide ?g5_TooWide ?g6_TooWide ?g7_TooWide ?iI_TooWide ?tI_TooWide ?lI_TooWide ?cI_TooWide ?kI_TooWide ?sa_TooWide ?nf_TooWide_rooms ?ac_NoRow ?xl_NoRow ?xe_NoRow ?xt_NoRow ?xk_NoRow ?xi_NoRow ?xs_NoRow ?g1_NoRow ?g2_NoRow ?g3_NoRow ?g4_NoRow ?g5_NoRow ?g6_NoRow ?g7_NoRow ?iI_NoRow ?tI_NoRow ?lI_NoRow ?cI_NoRow ?kI_NoRow ?ac_Nought ?xl_Nought ?xe_Nought ?xt_Nought ?xk_Nought ?xi_Nought ?xs_Nought ?g1_Nought ?g2_Nought ?g3_Nought ?g4_Nought ?g5_Nought ?g6_Nought ?g7_Nought ?iI_Nought ?tI_Nought ?lI_Nought ?cI_Nought ?kI_Nought ?ac_NotKept ?xe_NotKept ?xt_NotKept ?xk_NotKept ?xi_NotKept ?xs_NotKept ?g1_NotKept ?g2_NotKept ?g3_NotKept ?g4_NotKept ?g5_NotKept ?g6_NotKept ?g7_NotKept ?iI_NotKept ?tI_NotKept ?lI_NotKept ?cI_NotKept ?kI_NotKept ?nf_NotKept_name ?ac_NoBox ?xe_NoBox ?xt_NoBox ?xk_NoBox ?xi_NoBox ?xs_NoBox ?g1_NoBox ?g2_NoBox ?g3_NoBox ?g4_NoBox ?g5_NoBox ?g6_NoBox ?g7_NoBox ?iI_NoBox ?tI_NoBox ?lI_NoBox ?cI_NoBox ?kI_NoBox ?nf_NoBox_box ?vb_IndexError ?vb_KeyError ?vb_ValueError ?vb_ZeroDivisionError ?lkS ?okS ?noS ?yhE ?yhV ?yh0 ?yh1 ?yh2 ?yh3 ?yh4 ?yh5 ?yh6 ?yh7 ?yh8 ?yh9 ?yh10 ?yh11 ?yh12 ?mc_FIGURES ?mc_MOST_FIGURES ?a_common_part ?l_common_part ?c_common_part ?k_common_part ?a_fraction_of ?l_fraction_of ?c_fraction_of ?k_fraction_of ?t_fraction_of ?a_show_fraction ?l_show_fraction ?c_show_fraction ?k_show_fraction ?a_is_figures ?l_is_figures ?c_is_figures ?k_is_figures ?a_read_fraction ?l_read_fraction ?c_read_fraction ?k_read_fraction ?a_law_box ?l_law_box ?c_law_box ?k_law_box ?a_law_take ?l_law_take ?c_law_take ?k_law_take ?a_law_alike ?l_law_alike ?c_law_alike ?k_law_alike ?a_law_shared ?l_law_shared ?c_law_shared ?k_law_shared ?a_law_lowest ?l_law_lowest ?c_law_lowest ?k_law_lowest ?a_law_signs ?l_law_signs ?c_law_signs ?k_law_signs ?a_law_figures ?l_law_figures ?c_law_figures ?k_law_figures ?a_law_in ?l_law_in ?c_law_in ?k_law_in ?a_law_spoilt ?l_law_spoilt ?c_law_spoilt ?k_law_spoilt ?a_law_heard ?l_law_heard ?c_law_heard ?k_law_heard ?a_law_right ?l_law_right ?c_law_right ?k_law_right ?a_law ?l_law ?c_law ?k_law ?zb_IndexError ?zb_KeyError ?zb_ValueError ?zb_ZeroDivisionError ?zb_abs ?zb_all ?zb_bool ?zb_int ?zb_isinstance ?zb_len ?zb_list ?zb_max ?zb_min ?zb_range ?zb_str ?zb_tuple ?zb_zip)
    (case ac_BoughError => k_is)
    (case xl_BoughError => k_is)
    (case xe_BoughError => k_is)
    (case xt_BoughError => k_is)
    (case xk_BoughError => k_is)
    (case xi_BoughError => k_is)
    (case xs_BoughError => k_is)
    (case g1_BoughError => k_is)
    (case g2_BoughError => k_is)
    (case g3_BoughError => k_is)
    (case g4_BoughError => k_is)
    (case g5_BoughError => k_is)
    (case g6_BoughError => k_is)
    (case g7_BoughError => k_is)
    (case h1_BoughError => k_is)
    (case h2_BoughError => k_is)
    (case h3_BoughError => k_is)
    (case ac_NoText => k_is)
    (case xl_NoText => k_is)
    (case xe_NoText => k_is)
    (case xt_NoText => k_is)
    (case xk_NoText => k_is)
    (case xi_NoText => k_is)
    (case xs_NoText => k_is)
    (case g1_NoText => k_is)
    (case g2_NoText => k_is)
    (case g3_NoText => k_is)
    (case g4_NoText => k_is)
    (case g5_NoText => k_is)
    (case g6_NoText => k_is)
    (case g7_NoText => k_is)
    (case iI_NoText => k_is)
    (case tI_NoText => k_is)
    (case lI_NoText => k_is)
    (case cI_NoText => k_is)
    (case kI_NoText => k_is)
    (case sa_NoText => k_is)
    (case nf_NoText_row => k_is)
    (case ac_NoWood => k_is)
    (case xl_NoWood => k_is)
    (case xe_NoWood => k_is)
    (case xt_NoWood => k_is)
    (case xk_NoWood => k_is)
    (case xi_NoWood => k_is)
    (case xs_NoWood => k_is)
    (case g1_NoWood => k_is)
    (case g2_NoWood => k_is)
    (case g3_NoWood => k_is)
    (case g4_NoWood => k_is)
    (case g5_NoWood => k_is)
    (case g6_NoWood => k_is)
    (case g7_NoWood => k_is)
    (case iI_NoWood => k_is)
    (case tI_NoWood => k_is)
    (case lI_NoWood => k_is)
    (case cI_NoWood => k_is)
    (case kI_NoWood => k_is)
    (case sa_NoWood => k_is)
    (case nf_NoWood_word => k_is)
    (case nf_NoWood_name => k_is)
    (case ac_NoTree => k_is)
    (case xl_NoTree => k_is)
    (case xe_NoTree => k_is)
    (case xt_NoTree => k_is)
    (case xk_NoTree => k_is)
    (case xi_NoTree => k_is)
    (case xs_NoTree => k_is)
    (case g1_NoTree => k_is)
    (case g2_NoTree => k_is)
    (case g3_NoTree => k_is)
    (case g4_NoTree => k_is)
    (case g5_NoTree => k_is)
    (case g6_NoTree => k_is)
    (case g7_NoTree => k_is)
    (case iI_NoTree => k_is)
    (case tI_NoTree => k_is)
    (case lI_NoTree => k_is)
    (case cI_NoTree => k_is)
    (case kI_NoTree => k_is)
    (case sa_NoTree => k_is)
    (case nf_NoTree_at => k_is)
    (case ac_NoWord => k_is)
    (case xl_NoWord => k_is)
    (case xe_NoWord => k_is)
    (case xt_NoWord => k_is)
    (case xk_NoWord => k_is)
    (case xi_NoWord => k_is)
    (case xs_NoWord => k_is)
    (case g1_NoWord => k_is)
    (case g2_NoWord => k_is)
    (case g3_NoWord => k_is)
    (case g4_NoWord => k_is)
    (case g5_NoWord => k_is)
    (case g6_NoWord => k_is)
    (case g7_NoWord => k_is)
    (case iI_NoWord => k_is)
    (case tI_NoWord => k_is)
    (case lI_NoWord => k_is)
    (case cI_NoWord => k_is)
    (case kI_NoWord => k_is)
    (case sa_NoWord => k_is)
    (case nf_NoWord_at => k_is)
    (case ac_TooLong => k_is)
    (case xl_TooLong => k_is)
    (case xe_TooLong => k_is)
    (case xt_TooLong => k_is)
    (case xk_TooLong => k_is)
    (case xi_TooLong => k_is)
    (case xs_TooLong => k_is)
    (case g1_TooLong => k_is)
    (case g2_TooLong => k_is)
    (case g3_TooLong => k_is)
    (case g4_TooLong => k_is)
    (case g5_TooLong => k_is)
    (case g6_TooLong => k_is)
    (case g7_TooLong => k_is)
    (case iI_TooLong => k_is)
    (case tI_TooLong => k_is)
    (case lI_TooLong => k_is)
    (case cI_TooLong => k_is)
    (case kI_TooLong => k_is)
    (case sa_TooLong => k_is)
    (case nf_TooLong_most => k_is)
    (case ac_NoReader => k_is)
    (case xl_NoReader => k_is)
    (case xe_NoReader => k_is)
    (case xt_NoReader => k_is)
    (case xk_NoReader => k_is)
    (case xi_NoReader => k_is)
    (case xs_NoReader => k_is)
    (case g1_NoReader => k_is)
    (case g2_NoReader => k_is)
    (case g3_NoReader => k_is)
    (case g4_NoReader => k_is)
    (case g5_NoReader => k_is)
    (case g6_NoReader => k_is)
    (case g7_NoReader => k_is)
    (case iI_NoReader => k_is)
    (case tI_NoReader => k_is)
    (case lI_NoReader => k_is)
    (case cI_NoReader => k_is)
    (case kI_NoReader => k_is)
    (case sa_NoReader => k_is)
    (case nf_NoReader_word => k_is)
    (case nf_NoReader_maker => k_is)
    (case ac_NoFit => k_is)
    (case xl_NoFit => k_is)
    (case xe_NoFit => k_is)
    (case xt_NoFit => k_is)
    (case xk_NoFit => k_is)
    (case xi_NoFit => k_is)
    (case xs_NoFit => k_is)
    (case g1_NoFit => k_is)
    (case g2_NoFit => k_is)
    (case g3_NoFit => k_is)
    (case g4_NoFit => k_is)
    (case g5_NoFit => k_is)
    (case g6_NoFit => k_is)
    (case g7_NoFit => k_is)
    (case iI_NoFit => k_is)
    (case tI_NoFit => k_is)
    (case lI_NoFit => k_is)
    (case cI_NoFit => k_is)
    (case kI_NoFit => k_is)
    (case sa_NoFit => k_is)
    (case nf_NoFit_at => k_is)
    (case ac_NoPrinter => k_is)
    (case xl_NoPrinter => k_is)
    (case xe_NoPrinter => k_is)
    (case xt_NoPrinter => k_is)
    (case xk_NoPrinter => k_is)
    (case xi_NoPrinter => k_is)
    (case xs_NoPrinter => k_is)
    (case g1_NoPrinter => k_is)
    (case g2_NoPrinter => k_is)
    (case g3_NoPrinter => k_is)
    (case g4_NoPrinter => k_is)
    (case g5_NoPrinter => k_is)
    (case g6_NoPrinter => k_is)
    (case g7_NoPrinter => k_is)
    (case iI_NoPrinter => k_is)
    (case tI_NoPrinter => k_is)
    (case lI_NoPrinter => k_is)
    (case cI_NoPrinter => k_is)
    (case kI_NoPrinter => k_is)
    (case sa_NoPrinter => k_is)
    (case nf_NoPrinter_word => k_is)
    (case nf_NoPrinter_maker => k_is)
    (case ac_NoTurner => k_is)
    (case xl_NoTurner => k_is)
    (case xe_NoTurner => k_is)
    (case xt_NoTurner => k_is)
    (case xk_NoTurner => k_is)
    (case xi_NoTurner => k_is)
    (case xs_NoTurner => k_is)
    (case g1_NoTurner => k_is)
    (case g2_NoTurner => k_is)
    (case g3_NoTurner => k_is)
    (case g4_NoTurner => k_is)
    (case g5_NoTurner => k_is)
    (case g6_NoTurner => k_is)
    (case g7_NoTurner => k_is)
    (case iI_NoTurner => k_is)
    (case tI_NoTurner => k_is)
    (case lI_NoTurner => k_is)
    (case cI_NoTurner => k_is)
    (case kI_NoTurner => k_is)
    (case sa_NoTurner => k_is)
    (case nf_NoTurner_word => k_is)
    (case nf_NoTurner_maker => k_is)
    (case ac_TooWide => k_is)
    (case xl_TooWide => k_is)
    (case xe_TooWide => k_is)
    (case xt_TooWide => k_is)
    (case xk_TooWide => k_is)
    (case xi_TooWide => k_is)
    (case xs_TooWide => k_is)
    (case g1_TooWide => k_is)
    (case g2_TooWide => k_is)
    (case g3_TooWide => k_is)
    (case g4_TooWide => k_is)
    (case g5_TooWide => k_is)
    (case g6_TooWide => k_is)
    (case g7_TooWide => k_is)
    (case iI_TooWide => k_is)
    (case tI_TooWide => k_is)
    (case lI_TooWide => k_is)
    (case cI_TooWide => k_is)
    (case kI_TooWide => k_is)
    (case sa_TooWide => k_is)
    (case nf_TooWide_rooms => k_is)
    (case ac_NoRow => k_is)
    (case xl_NoRow => k_is)
    (case xe_NoRow => k_is)
    (case xt_NoRow => k_is)
    (case xk_NoRow => k_is)
    (case xi_NoRow => k_is)
    (case xs_NoRow => k_is)
    (case g1_NoRow => k_is)
    (case g2_NoRow => k_is)
    (case g3_NoRow => k_is)
    (case g4_NoRow => k_is)
    (case g5_NoRow => k_is)
    (case g6_NoRow => k_is)
    (case g7_NoRow => k_is)
    (case iI_NoRow => k_is)
    (case tI_NoRow => k_is)
    (case lI_NoRow => k_is)
    (case cI_NoRow => k_is)
    (case kI_NoRow => k_is)
    (case ac_Nought => k_is)
    (case xl_Nought => k_is)
    (case xe_Nought => k_is)
    (case xt_Nought => k_is)
    (case xk_Nought => k_is)
    (case xi_Nought => k_is)
    (case xs_Nought => k_is)
    (case g1_Nought => k_is)
    (case g2_Nought => k_is)
    (case g3_Nought => k_is)
    (case g4_Nought => k_is)
    (case g5_Nought => k_is)
    (case g6_Nought => k_is)
    (case g7_Nought => k_is)
    (case iI_Nought => k_is)
    (case tI_Nought => k_is)
    (case lI_Nought => k_is)
    (case cI_Nought => k_is)
    (case kI_Nought => k_is)
    (case ac_NotKept => k_is)
    (case xe_NotKept => k_is)
    (case xt_NotKept => k_is)
    (case xk_NotKept => k_is)
    (case xi_NotKept => k_is)
    (case xs_NotKept => k_is)
    (case g1_NotKept => k_is)
    (case g2_NotKept => k_is)
    (case g3_NotKept => k_is)
    (case g4_NotKept => k_is)
    (case g5_NotKept => k_is)
    (case g6_NotKept => k_is)
    (case g7_NotKept => k_is)
    (case iI_NotKept => k_is)
    (case tI_NotKept => k_is)
    (case lI_NotKept => k_is)
    (case cI_NotKept => k_is)
    (case kI_NotKept => k_is)
    (case nf_NotKept_name => k_is)
    (case ac_NoBox => k_is)
    (case xe_NoBox => k_is)
    (case xt_NoBox => k_is)
    (case xk_NoBox => k_is)
    (case xi_NoBox => k_is)
    (case xs_NoBox => k_is)
    (case g1_NoBox => k_is)
    (case g2_NoBox => k_is)
    (case g3_NoBox => k_is)
    (case g4_NoBox => k_is)
    (case g5_NoBox => k_is)
    (case g6_NoBox => k_is)
    (case g7_NoBox => k_is)
    (case iI_NoBox => k_is)
    (case tI_NoBox => k_is)
    (case lI_NoBox => k_is)
    (case cI_NoBox => k_is)
    (case kI_NoBox => k_is)
    (case nf_NoBox_box => k_is)
    (case vb_IndexError => k_is)
    (case vb_KeyError => k_is)
    (case vb_ValueError => k_is)
    (case vb_ZeroDivisionError => k_is)
    (case lkS => k_is)
    (case okS => kernel_rfl)
    (case noS => k_is)
    (case yhE => k_is)
    (case yhV => k_is)
    (case yh0 => k_is)
    (case yh1 => k_is)
    (case yh2 => k_is)
    (case yh3 => k_is)
    (case yh4 => k_is)
    (case yh5 => k_is)
    (case yh6 => k_is)
    (case yh7 => k_is)
    (case yh8 => k_is)
    (case yh9 => k_is)
    (case yh10 => k_is)
    (case yh11 => k_is)
    (case yh12 => k_is)
    (case mc_FIGURES => k_is)
    (case mc_MOST_FIGURES => k_is)
    (case a_common_part => k_is)
    (case l_common_part => k_is)
    (case c_common_part => k_is)
    (case k_common_part => k_is)
    (case a_fraction_of => k_is)
    (case l_fraction_of => k_is)
    (case c_fraction_of => k_is)
    (case k_fraction_of => k_is)
    (case t_fraction_of => k_is)
    (case a_show_fraction => k_is)
    (case l_show_fraction => k_is)
    (case c_show_fraction => k_is)
    (case k_show_fraction => k_is)
    (case a_is_figures => k_is)
    (case l_is_figures => k_is)
    (case c_is_figures => k_is)
    (case k_is_figures => k_is)
    (case a_read_fraction => k_is)
    (case l_read_fraction => k_is)
    (case c_read_fraction => k_is)
    (case k_read_fraction => k_is)
    (case a_law_box => k_is)
    (case l_law_box => k_is)
    (case c_law_box => k_is)
    (case k_law_box => k_is)
    (case a_law_take => k_is)
    (case l_law_take => k_is)
    (case c_law_take => k_is)
    (case k_law_take => k_is)
    (case a_law_alike => k_is)
    (case l_law_alike => k_is)
    (case c_law_alike => k_is)
    (case k_law_alike => k_is)
    (case a_law_shared => k_is)
    (case l_law_shared => k_is)
    (case c_law_shared => k_is)
    (case k_law_shared => k_is)
    (case a_law_lowest => k_is)
    (case l_law_lowest => k_is)
    (case c_law_lowest => k_is)
    (case k_law_lowest => k_is)
    (case a_law_signs => k_is)
    (case l_law_signs => k_is)
    (case c_law_signs => k_is)
    (case k_law_signs => k_is)
    (case a_law_figures => k_is)
    (case l_law_figures => k_is)
    (case c_law_figures => k_is)
    (case k_law_figures => k_is)
    (case a_law_in => k_is)
    (case l_law_in => k_is)
    (case c_law_in => k_is)
    (case k_law_in => k_is)
    (case a_law_spoilt => k_is)
    (case l_law_spoilt => k_is)
    (case c_law_spoilt => k_is)
    (case k_law_spoilt => k_is)
    (case a_law_heard => k_is)
    (case l_law_heard => k_is)
    (case c_law_heard => k_is)
    (case k_law_heard => k_is)
    (case a_law_right => k_is)
    (case l_law_right => k_is)
    (case c_law_right => k_is)
    (case k_law_right => k_is)
    (case a_law => k_is)
    (case l_law => k_is)
    (case c_law => k_is)
    (case k_law => k_is)
    (case zb_IndexError => k_is)
    (case zb_KeyError => k_is)
    (case zb_ValueError => k_is)
    (case zb_ZeroDivisionError => k_is)
    (case zb_abs => k_is)
    (case zb_all => k_is)
    (case zb_bool => k_is)
    (case zb_int => k_is)
    (case zb_isinstance => k_is)
    (case zb_len => k_is)
    (case zb_list => k_is)
    (case zb_max => k_is)
    (case zb_min => k_is)
    (case zb_range => k_is)
    (case zb_str => k_is)
    (case zb_tuple => k_is)
    (case zb_zip => k_is)
#print axioms PySem.Challenge.cw_boughkept_k02_fractions_written_holds
