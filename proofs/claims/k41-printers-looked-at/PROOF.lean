import PyProof.Rows.All
import Wide.All
import OpenK.AllK
import Wide.FinOn
import HandS.ForMost
import HandS.ForExc
import HandS.Wide
import HandS.IsInst
import HandS.ExcIs
import HandS.ExcInit
import HandS.Flow
import HandS.Zip
import HandS.TupAny
import HandS.TupLe
import HandS.ListItems
import HandS.Defaults
import HandS.Text
import HandS.SetKeys
import HandS.ExcField
import HandS.StrMore
import HandS.Walk
import HandS.Codes
import KE.KDictZip
import KE.KDictItemsList
import HandS.Iter
import KE.GoesMore
import HandS.TupMul
import HandS.More
import KE.KExcIs
import PyProof.StrOps2
import PyProof.FactsAll.tuple_2
import KE.GoesEnumKw
import HandS.Replace
import PyProof.ToksMono
import HandS.MakeKw
import HandS.Rev
import KE.KDictPairs
import KE.DataFind
import KE.GoesZip
import KE.KeyNested
import PyProof.ListStr
import HandS.TupLen
import HandS.Conv
import PyProof.DictMoreH
import KE.DataMinMax
import HandS.Deep
import PyProof.SumAny
import KE.IntTextLaws
import HandS.IntHex
import HandS.FStr
import HandS.ExcInitHot
import HandS.SuiteRaise
import HandS.Style
import PyProof.Rows.StrOr
import KE.KIntText
import HandS.SetTxtIn
import HandS.Strs
import PySem.Challenge.RW_boughkept_k41_printers_looked_at
set_option pp.maxSteps 1200
set_option Elab.async false
set_option linter.all false
set_option maxRecDepth 100000
set_option maxHeartbeats 4000000
set_option Elab.async false
set_option linter.all false
set_option maxRecDepth 100000
set_option maxHeartbeats 4000000
/-! Bk1: readings that compute by themselves, over the hand layer. -/
namespace Bk
open PySem PySem.Spec PyProof.Rows L2
/-! ### heaps: what is kept -/
/-- every tracked object stands as it stood -/
def Ex (H H' : Hp) : Prop := ∀ a o, H a = some o → H' a = some o
/-- .. but what stands at l -/
def But (l : Addr) (H H' : Hp) : Prop := ∀ a o, a ≠ l → H a = some o → H' a = some o
/-- the tuples stand -/
def Tk (H H' : Hp) : Prop := ∀ a xs, H a = some (.tup xs) → H' a = some (.tup xs)
theorem Ex.refl (H : Hp) : Ex H H := fun _ _ h => h
theorem Ex.trans {H H1 H2 : Hp} (a : Ex H H1) (b : Ex H1 H2) : Ex H H2 := fun x o h => b x o (a x o h)
theorem Ex.new {H : Hp} {p : Addr} {o : HO} (h : H p = none) : Ex H (upd H p o) := fun a u e => by
  rw [upd_ne (ne_of_none e h)]
  exact e
theorem Ex.at_new {H H' : Hp} {p : Addr} {o : HO} (x : Ex H H') (h : H p = none) : Ex H (upd H' p o) := fun a u e => by
  rw [upd_ne (ne_of_none e h)]
  exact x a u e
theorem Ex.free {H H' : Hp} {p : Addr} (e : Ex H H') (h : H' p = none) : H p = none := by
  cases q : H p with
  | none => rfl
  | some o => rw [e p o q] at h; cases h
theorem Ex.but {H H' : Hp} (l : Addr) (e : Ex H H') : But l H H' := fun a o _ h => e a o h
theorem Ex.of_but {H H' : Hp} {l : Addr} (e : But l H H') (h : H l = none) : Ex H H' := fun a o q => e a o (ne_of_none q h) q
theorem But.refl (l : Addr) (H : Hp) : But l H H := fun _ _ _ h => h
theorem But.trans {l : Addr} {H H1 H2 : Hp} (a : But l H H1) (b : But l H1 H2) : But l H H2 := fun x o n h => b x o n (a x o n h)
theorem But.upd {l : Addr} {H H' : Hp} {o : HO} (a : But l H H') : But l H (upd H' l o) := fun x u n h => by
  rw [upd_ne n]
  exact a x u n h
theorem But.get {l a : Addr} {H H' : Hp} {o u : HO} (b : But l H H') (hl : H l = some u) (h : H a = some o) (d : o ≠ u) : H' a = some o := b a o (ne_of h hl d) h
theorem Ex.tk {H H' : Hp} (e : Ex H H') : Tk H H' := fun a xs h => e a _ h
theorem But.tk {l : Addr} {H H' : Hp} {u : HO} (b : But l H H') (hl : H l = some u) (d : ∀ xs, HO.tup xs ≠ u) : Tk H H' := fun a xs h => b.get hl h (d xs)
theorem But.tkl {l : Addr} {H H' : Hp} {ys : List V} (b : But l H H') (hl : H l = some (.lst ys)) : Tk H H' := b.tk hl fun _ z => nomatch z
theorem Tk.refl (H : Hp) : Tk H H := fun _ _ h => h
theorem Tk.trans {H H1 H2 : Hp} (a : Tk H H1) (b : Tk H1 H2) : Tk H H2 := fun x o h => b x o (a x o h)
theorem sqL {K : PySem.W.Frag} {H : Hp} {a : Addr} {xs : List V} (h : H a = some (.lst xs)) : SqL K H a xs := .inl (.inl h)
theorem sqT {K : PySem.W.Frag} {H : Hp} {a : Addr} {xs : List V} (h : H a = some (.tup xs)) : SqT K H a xs := .inl (.inl h)
theorem Ex.seqL {K : PySem.W.Frag} {H H' : Hp} {a : Addr} {xs : List V} (e : Ex H H') (h : SqL K H a xs) : SqL K H' a xs := by
  rcases h with (h | ⟨o, h⟩) | h
  · exact .inl (.inl (e _ _ h))
  · exact .inl (.inr ⟨o, e _ _ h⟩)
  · exact .inr h
theorem But.seqL {K : PySem.W.Frag} {l : Addr} {H H' : Hp} {a : Addr} {xs : List V} (e : But l H H') (n : a ≠ l) (h : SqL K H a xs) : SqL K H' a xs := by
  rcases h with (h | ⟨o, h⟩) | h
  · exact .inl (.inl (e _ _ n h))
  · exact .inl (.inr ⟨o, e _ _ n h⟩)
  · exact .inr h
/-! ### data: what a value stands for -/
inductive D where
  | non | bl (b : Bool) | int (i : Int) | str (s : Str) | tup (ds : List D) | lst (ds : List D)
mutual
def Rep (H : Hp) : D → V → Prop
  | .non, v => v = .non
  | .bl b, v => v = .bl b
  | .int i, v => v = .int i
  | .str s, v => v = .str s
  | .tup ds, v => ∃ a vs, v = .ref a ∧ H a = some (.tup vs) ∧ Reps H ds vs
  | .lst ds, v => ∃ a vs, v = .ref a ∧ H a = some (.lst vs) ∧ Reps H ds vs
def Reps (H : Hp) : List D → List V → Prop
  | [], vs => vs = []
  | d :: ds, vs => ∃ v r, vs = v :: r ∧ Rep H d v ∧ Reps H ds r
end
mutual
/-- tuples and flat things alone -/
def D.hard : D → Bool
  | .lst _ => false
  | .tup ds => D.hards ds
  | .non => true | .bl _ => true | .int _ => true | .str _ => true
def D.hards : List D → Bool
  | [] => true
  | d :: ds => d.hard && D.hards ds
end
mutual
def D.size : D → Nat
  | .tup ds => 1 + D.sizes ds
  | .lst ds => 1 + D.sizes ds
  | .non => 1 | .bl _ => 1 | .int _ => 1 | .str _ => 1
def D.sizes : List D → Nat
  | [] => 0
  | d :: ds => d.size + D.sizes ds
end
theorem D.size_pos (d : D) : 1 ≤ d.size := by cases d <;> simp only [D.size] <;> omega
mutual
theorem Rep.ex {H H' : Hp} (e : Ex H H') : ∀ {d : D} {v : V}, Rep H d v → Rep H' d v
  | .non, _, h => h
  | .bl _, _, h => h
  | .int _, _, h => h
  | .str _, _, h => h
  | .tup ds, _, h => by
    simp only [Rep] at h ⊢
    obtain ⟨a, vs, r, ha, hr⟩ := h
    exact ⟨a, vs, r, e _ _ ha, Reps.ex e hr⟩
  | .lst ds, _, h => by
    simp only [Rep] at h ⊢
    obtain ⟨a, vs, r, ha, hr⟩ := h
    exact ⟨a, vs, r, e _ _ ha, Reps.ex e hr⟩
theorem Reps.ex {H H' : Hp} (e : Ex H H') : ∀ {ds : List D} {vs : List V}, Reps H ds vs → Reps H' ds vs
  | [], _, h => h
  | d :: ds, _, h => by
    simp only [Reps] at h ⊢
    obtain ⟨v, r, x, h1, h2⟩ := h
    exact ⟨v, r, x, Rep.ex e h1, Reps.ex e h2⟩
end
mutual
theorem Rep.tk {H H' : Hp} (e : Tk H H') : ∀ {d : D} {v : V}, d.hard = true → Rep H d v → Rep H' d v
  | .non, _, _, h => h
  | .bl _, _, _, h => h
  | .int _, _, _, h => h
  | .str _, _, _, h => h
  | .lst _, _, z, _ => by simp [D.hard] at z
  | .tup ds, _, z, h => by
    simp only [D.hard] at z
    simp only [Rep] at h ⊢
    obtain ⟨a, vs, r, ha, hr⟩ := h
    exact ⟨a, vs, r, e _ _ ha, Reps.tk e z hr⟩
theorem Reps.tk {H H' : Hp} (e : Tk H H') : ∀ {ds : List D} {vs : List V}, D.hards ds = true → Reps H ds vs → Reps H' ds vs
  | [], _, _, h => h
  | d :: ds, _, z, h => by
    simp only [D.hards, Bool.and_eq_true] at z
    simp only [Reps] at h ⊢
    obtain ⟨v, r, x, h1, h2⟩ := h
    exact ⟨v, r, x, Rep.tk e z.1 h1, Reps.tk e z.2 h2⟩
end
theorem Reps.len {H : Hp} : ∀ {ds : List D} {vs : List V}, Reps H ds vs → vs.length = ds.length
  | [], _, h => by simp only [Reps] at h; rw [h]; rfl
  | d :: ds, _, h => by
    simp only [Reps] at h
    obtain ⟨v, r, x, _, h2⟩ := h
    rw [x, List.length_cons, List.length_cons, Reps.len h2]
theorem Reps.get {H : Hp} : ∀ {ds : List D} {vs : List V} {i : Nat} {v : V}, Reps H ds vs → vs[i]? = some v → ∃ d, ds[i]? = some d ∧ Rep H d v
  | [], _, i, v, h, e => by simp only [Reps] at h; rw [h] at e; simp at e
  | d :: ds, _, 0, v, h, e => by
    simp only [Reps] at h
    obtain ⟨u, r, x, h1, _⟩ := h
    rw [x] at e
    simp at e
    exact ⟨d, rfl, e ▸ h1⟩
  | d :: ds, _, i + 1, v, h, e => by
    simp only [Reps] at h
    obtain ⟨u, r, x, _, h2⟩ := h
    rw [x] at e
    obtain ⟨d', e', r'⟩ := Reps.get (i := i) h2 (by simpa using e)
    exact ⟨d', by simpa using e', r'⟩
theorem Reps.at {H : Hp} : ∀ {ds : List D} {vs : List V} {i : Nat} {d : D}, Reps H ds vs → ds[i]? = some d → ∃ v, vs[i]? = some v ∧ Rep H d v
  | [], _, i, d, h, e => by simp at e
  | d :: ds, _, 0, d', h, e => by
    simp only [Reps] at h
    obtain ⟨u, r, x, h1, _⟩ := h
    simp at e
    exact ⟨u, by rw [x]; rfl, e ▸ h1⟩
  | d :: ds, _, i + 1, d', h, e => by
    simp only [Reps] at h
    obtain ⟨u, r, x, _, h2⟩ := h
    obtain ⟨v', e', r'⟩ := Reps.at (i := i) h2 (by simpa using e)
    exact ⟨v', by rw [x]; simpa using e', r'⟩
theorem Reps.append {H : Hp} : ∀ {ds es : List D} {vs ws : List V}, Reps H ds vs → Reps H es ws → Reps H (ds ++ es) (vs ++ ws)
  | [], _, _, _, h, g => by simp only [Reps] at h; rw [h]; exact g
  | d :: ds, es, _, ws, h, g => by
    simp only [Reps] at h
    obtain ⟨v, r, x, h1, h2⟩ := h
    rw [x]
    simp only [List.cons_append, Reps]
    exact ⟨v, r ++ ws, rfl, h1, Reps.append h2 g⟩
/-! ### weaker readings -/
section
variable {X : Cx}
theorem pe_imp {e : Expr} {t t' : TE} (h : PE X e t) (w : ∀ σ H Q, t' σ H Q → t σ H Q) : PE X e t' := ⟨fun pins s σ H Q I q => h.run pins s σ H Q I (w σ H Q q)⟩
theorem pi_or {tg e : Expr} {t t' : TI} (h : PI X tg e t) (h' : PI X tg e t') : PI X tg e (fun σ H R => t σ H R ∨ t' σ H R) := ⟨fun pins s σ H R I q => by
  rcases q with q | q
  · exact h.run pins s σ H R I q
  · exact h'.run pins s σ H R I q⟩
theorem pe_or {e : Expr} {t t' : TE} (h : PE X e t) (h' : PE X e t') : PE X e (fun σ H R => t σ H R ∨ t' σ H R) := ⟨fun pins s σ H R I q => by
  rcases q with q | q
  · exact h.run pins s σ H R I q
  · exact h'.run pins s σ H R I q⟩
/-- the name that stands in the i-th slot -/
def uV (i : Nat) : TE := fun σ H Q => match σ[i]? with
  | some (some v) => Q v H
  | _ => False
theorem uv (i : Nat) {x : Str} {pos : Pos} (hN : X.N[i]? = some x := by rfl) (hv : Vis X.env.scope x := by first | exact Or.inl rfl | exact Or.inr (Or.inl rfl) | exact Or.inr (Or.inr rfl))
    (hd : (x == ("__debug__" : Str)) = false := by decide) (hcd : (x == ("__classdict__" : Str)) = false := by decide) : PE X (.Name x pos) (uV i) :=
  pe_imp (pv i hN hv hd hcd) fun σ H Q h => by
    unfold uV at h
    split at h
    · exact ⟨_, by assumption, h⟩
    · exact h.elim
theorem g_var {σ : L2.St} {i : Nat} {v : V} {H : Hp} {Q : VK} (e : σ[i]? = some (some v)) (q : Q v H) : uV i σ H Q := by
  unfold uV
  rw [e]
  exact q
/-- a value's truth -/
def uTru (K : PySem.W.Frag) (x : V) (H : Hp) (Q : Bool → Hp → Prop) : Prop := match x with
  | .bl k => Q k H
  | .int i => Q (i != 0) H
  | .non => Q false H
  | .str y => y.length ≤ sizeLine ∧ Q ((y.length : Int) != 0) H
  | .ref p => ∃ k, TruV K (.ref p) H k ∧ Q k H
  | _ => False
theorem uTru_of {K : PySem.W.Frag} {x : V} {H : Hp} {Q : Bool → Hp → Prop} (h : uTru K x H Q) : ∃ k, TruV K x H k ∧ Q k H := by
  unfold uTru at h
  split at h
  · exact ⟨_, rfl, h⟩
  · exact ⟨_, rfl, h⟩
  · exact ⟨_, rfl, h⟩
  · exact ⟨_, ⟨h.1, rfl⟩, h.2⟩
  · exact h
  · exact h.elim
/-- a value as a test -/
def uT (K : PySem.W.Frag) (te : TE) : TT := fun σ H Q => te σ H fun x H1 => uTru K x H1 Q
theorem ut {e : Expr} {te : TE} (h : PE X e te) (he : ∀ whole, isTrue e X.env whole = (do let v ← whole; standAt e.pos; holding [v] (truthy v)) := by intro _; rfl) : PT X e (uT X.K te) := by
  refine ⟨fun pins s σ H Q I q => ?_⟩
  refine isTrue_plain (thn (h.run pins s σ H _ I q) fun v s1 z => ?_) (he _)
  obtain ⟨x, H1, I1, r1, q1⟩ := z
  exact tru_ok pins s1 σ H1 x v Q I1 r1 (uTru_of q1)
/-! ### operators -/
def uAdd (K : PySem.W.Frag) : R2 := fun x y H Q => match x, y with
  | .int i, .int j => Q (.int (i + j)) H
  | .str a, .str b => a.length + b.length ≤ sizeLine ∧ Q (.str (a ++ b)) H
  | .ref p, .ref q => rCat (.ref p) (.ref q) H Q ∨ rCatA K (.ref p) (.ref q) H Q
  | _, _ => False
theorem uo_add : OpR X (binaryOp .Add) (uAdd X.K) := by
  intro pins s σ H x y v u Q I rx ry h
  unfold uAdd at h
  split at h
  · exact op_add pins s σ H _ _ v u Q I rx ry ⟨_, _, rfl, rfl, h⟩
  · exact op_add_str pins s σ H _ _ v u Q I rx ry ⟨_, _, rfl, rfl, h⟩
  · rcases h with h | h
    · exact op_cat pins s σ H _ _ v u Q I rx ry h
    · exact op_catA pins s σ H _ _ v u Q I rx ry h
  · exact h.elim
/-- two ints in -/
def uI (C : Int → Int → Prop) (g : Int → Int → V) : R2 := fun x y H Q => match x, y with
  | .int i, .int j => C i j ∧ Q (g i j) H
  | _, _ => False
def uI0 (g : Int → Int → V) : R2 := fun x y H Q => match x, y with
  | .int i, .int j => Q (g i j) H
  | _, _ => False
theorem ui_of {f : Value → Value → Sem Value} {C : Int → Int → Prop} {g : Int → Int → V} (h : OpR X f (rI C g)) : OpR X f (uI C g) := by
  intro pins s σ H x y v u Q I rx ry q
  unfold uI at q
  split at q
  · exact h pins s σ H _ _ v u Q I rx ry ⟨_, _, rfl, rfl, q.1, q.2⟩
  · exact q.elim
theorem ui0_of {f : Value → Value → Sem Value} {g : Int → Int → V} (h : OpR X f (rI0 g)) : OpR X f (uI0 g) := by
  intro pins s σ H x y v u Q I rx ry q
  unfold uI0 at q
  split at q
  · exact h pins s σ H _ _ v u Q I rx ry ⟨_, _, rfl, rfl, q⟩
  · exact q.elim
abbrev uSub : R2 := uI0 fun i j => .int (i - j)
theorem uo_sub : OpR X (binaryOp .Sub) uSub := ui0_of op_sub
def CMm (i j : Int) : Prop := CMul i j ∨ CMulW i j
abbrev uMul : R2 := uI CMm fun i j => .int (i * j)
theorem uo_mul : OpR X (binaryOp .Mult) uMul := by
  refine ui_of (opI fun _ _ _ _ _ _ _ hc q => ?_)
  rcases hc with hc | hc
  · exact mul_int q hc.ok
  · exact mul_int q hc.ok
theorem mulL {i j : Int} (h : i.natAbs.log2 < 1000) (h2 : j.natAbs.log2 < 900000) : CMulW i j := by
  show _ < _
  omega
/-- // by anything but nought below 2 ^ 9000 -/
def CFd (_ j : Int) : Prop := j ≠ 0 ∧ j.natAbs.log2 < 9000
theorem op_fd : OpR X (binaryOp .FloorDiv) (rI CFd fun i j => .int (i.fdiv j)) := opI fun i j _ _ _ _ _ hc q => floordiv_int hc.1 q (.inl (PyProof.noPylong_of_log2 hc.2))
abbrev uFd : R2 := uI CFd fun i j => .int (i.fdiv j)
theorem uo_fd : OpR X (binaryOp .FloorDiv) uFd := ui_of op_fd
abbrev uMod : R2 := uI (fun _ j => j ≠ 0) fun i j => .int (i.fmod j)
theorem uo_mod : OpR X (binaryOp .Mod) uMod := ui_of op_modN
abbrev uPow : R2 := uI CPow fun i j => .int (i ^ j.toNat)
theorem uo_pow : OpR X (binaryOp .Pow) uPow := ui_of op_pow
abbrev uLt : R2 := uI0 fun i j => .bl (decide (i < j))
theorem uo_lt : OpR X (compareOp .Lt) uLt := ui0_of op_lt
abbrev uLe : R2 := uI0 fun i j => .bl (decide (i ≤ j))
theorem uo_le : OpR X (compareOp .LtE) uLe := ui0_of op_le
abbrev uGt : R2 := uI0 fun i j => .bl (decide (j < i))
theorem uo_gt : OpR X (compareOp .Gt) uGt := ui0_of op_gt
abbrev uGe : R2 := uI0 fun i j => .bl (decide (j ≤ i))
theorem uo_ge : OpR X (compareOp .GtE) uGe := ui0_of op_ge
def uNeg : V → Hp → VK → Prop := fun x H Q => match x with
  | .int i => Q (.int (-i)) H
  | _ => False
theorem uu_neg : UnR X (unaryOp .USub) uNeg := by
  intro pins s σ H x v Q I rx q
  unfold uNeg at q
  split at q
  · exact un_neg pins s σ H _ v Q I rx ⟨_, rfl, q⟩
  · exact q.elim
/-- x is None, x is not None (y is the None) -/
def uIsN : R2 := fun x y H Q => y = .non ∧ Q (.bl (decide (x = .non))) H
def uNotN : R2 := fun x y H Q => y = .non ∧ Q (.bl (!decide (x = .non))) H
theorem uo_isN : OpR X (compareOp .Is) uIsN := op_isN
theorem uo_notN : OpR X (compareOp .IsNot) uNotN := op_notN
/-! ### len, subscripts -/
def LenR (K : PySem.W.Frag) (H : Hp) (p : Addr) (n : Nat) : Prop := (∃ ys, (SqL K H p ys ∨ SqT K H p ys) ∧ n = ys.length) ∨ ∃ kvs, H p = some (.dK kvs) ∧ n = kvs.length
def uLen (K : PySem.W.Frag) : List V → Hp → VK → Prop := fun xs H Q => match xs with
  | [.str z] => z.length ≤ sizeLine ∧ Q (.int z.length) H
  | [.ref p] => ∃ n : Nat, LenR K H p n ∧ Q (.int n) H
  | _ => False
theorem uk_len : CallR X (.builtin "len") (uLen X.K) := by
  intro pins s σ H xs us Q I r h
  unfold uLen at h
  split at h
  · exact call_len_str pins s σ H _ us Q I r ⟨_, rfl, h.1, h.2⟩
  · obtain ⟨n, h, q⟩ := h
    rcases h with ⟨ys, h, e⟩ | ⟨kvs, h, e⟩
    · subst e
      exact call_len_seq pins s σ H _ us Q I r ⟨_, _, rfl, h, q⟩
    · subst e
      exact call_lenD pins s σ H _ us Q I r ⟨_, _, rfl, h, q⟩
  · exact h.elim
def uIx (K : PySem.W.Frag) : R2 := fun x y H Q => match x, y with
  | .ref p, .int i => ∃ xs v, (SqL K H p xs ∨ SqT K H p xs) ∧ atI xs i = some v ∧ Q v H
  | .str z, .int i => z.length ≤ sizeLine ∧ ∃ c, atI z.cps.toList i = some c ∧ Q (.str ⟨#[c]⟩) H
  | _, _ => False
theorem ux_seq : IxR X (uIx X.K) := by
  intro value slice pins s σ H x y v u Q I rx ry q hs
  unfold uIx at q
  split at q
  · obtain ⟨xs, w, hq, a, q⟩ := q
    refine ix_seq value slice pins s σ H _ _ v u Q I rx ry ?_ hs
    rcases hq with hq | hq
    · exact .inl ⟨_, xs, _, w, rfl, rfl, hq, a, q⟩
    · exact .inr (.inl ⟨_, xs, _, w, rfl, rfl, hq, a, q⟩)
  · obtain ⟨z, c, a, q⟩ := q
    exact ix_seq value slice pins s σ H _ _ v u Q I rx ry (.inr (.inr ⟨_, _, c, rfl, rfl, z, a, q⟩)) hs
  · exact q.elim
/-! ### what a for walks: a list or a tuple -/
def uSeq (K : PySem.W.Frag) (td : TE) : TI := fun σ H R => iList K td σ H R ∨ iTup K td σ H R ∨ iStr td σ H R
theorem ui_seq {tg e : Expr} {td : TE} (h : PE X e td) : PI X tg e (uSeq X.K td) := pi_or (pi_list h) (pi_or (pi_tup h) (pi_str h))
end
end Bk
set_option Elab.async false
set_option linter.all false
set_option maxRecDepth 100000
set_option maxHeartbeats 4000000
/-! Bk2: own errors over any built-in base, made by their own __init__. -/
namespace Bk
open PySem PySem.Spec PyProof.Rows L2
/-- what the written part says of an own error's class: newId, bmB of its built-in base -/
structure OexB (K : PySem.W.Frag) (C : Addr) (newId : String) (bmB : List Value) : Prop where
  cls : ∃ nm q N bs bm sn sub ab col dd k0 k1 k2 k3 k5, K.lookup C = some (excClassObj nm q C N bs bm true sn sub ab col dd k0 k1 k2 k3 k5 newId) ∧ ∀ Y : String, bm.contains (.type Y) = bmB.contains (.type Y)
  exC : PySem.W.subIn K (.ref C) (.type "BaseException") = some true
  tyC : PySem.W.typeIn K (.ref C) = some (.type "type")
  kC : PySem.W.keepIn K (.ref C) = true
section
variable {X : Cx} {pins : List (Addr × Obj)} {σ : L2.St} {H : Hp} {s : Shared} {a C : Addr} {B newId initId : String} {bmB : List Value}
/-- B.__init__(self, ..) over an error that has no dict as yet -/
theorem ginit_ok {A : Around} {E : Value → Shared → Prop} {us : List Value} {Q : Value → Shared → Prop} (F : ExcBaseFacts B newId initId bmB) (T : OexB X.K C newId bmB) (I : Inv X pins σ H s) (e : H a = some (exo a C none)) (hl : us.length ≤ sizeLine)
    (h : ∀ s', Inv X pins σ H s' → Q .none s') : wpAny (model X.prog X.w) A (call (.builtin initId) (.ref a :: us)) Q E s := by
  obtain ⟨nm, q, N, bs, bm, sn, sub, ab, col, dd, k0, k1, k2, k3, k5, hC, hT⟩ := T.cls
  obtain ⟨t1, ho⟩ := exo_at I.hok e
  obtain ⟨hp, g, d, t, os⟩ := s
  refine wpAny_call (PySem.HandSPX.init_base F hT (I.kIn _ _ hC) ho hl fun h' t2 k hx => ?_)
  have J := I.write (t' := t) (x := a) (e := a) (o := exo a C none) (by rw [e]; exact True.intro) (.inl rfl) k ⟨_, hx⟩ (exo_ok hx)
  have eu : upd H a (exo a C none) = H := funext fun b => by
    by_cases hb : b = a
    · rw [hb, upd_same, e]
    · rw [upd_ne hb]
  rw [eu] at J
  exact h _ J
/-- T.__init__(self, ..), T a built-in class of errors, or an own one that has it from there -/
def uXIk (K : PySem.W.Frag) (newId : String) (bmB : List Value) : List V → Hp → VK → Prop := fun vs H1 Q => match vs with
  | .ref a :: ws => ∃ C, ws.length ≤ 1000 ∧ OexB K C newId bmB ∧ H1 a = some (exo a C none) ∧ Q .non H1
  | _ => False
def uXI (K : PySem.W.Frag) (newId : String) (bmB : List Value) (ta : TA) : TE := fun σ H Q => ta σ H fun vs H1 => uXIk K newId bmB vs H1 Q
theorem uXI_end {F0 : ExcBaseFacts B newId initId bmB} {us : List Value} {vs : List V} {Q : VK} (I : Inv X pins σ H s) (r : Vals vs us)
    (h : uXIk X.K newId bmB vs H Q) :
    wpAny (model X.prog X.w) X.A (call (.builtin initId) us) (EP X pins σ Q) X.xe s := by
  unfold uXIk at h
  split at h
  · obtain ⟨C, hl, T, ea, q⟩ := h
    cases r with
    | @cons _ u0 _ ur ra rw' =>
      obtain rfl : u0 = Value.ref _ := ra
      have hlen : ur.length ≤ sizeLine := by
        rw [← Paired.length rw', sizeLine_eq]
        omega
      exact ginit_ok F0 T I ea hlen fun s' J => ⟨.non, H, J, rfl, q⟩
  · exact h.elim
variable {e : Expr} {es : List Expr} {ta : TA} {p1 p2 pos : Pos} {x : Str}
/-- how an own class hands out its base's __init__ -/
structure XiC (K : PySem.W.Frag) (D : Addr) (initId : String) : Prop where
  ga : PySem.W.specialIn K (.ref D) "__getattribute__" = some (some (.builtin "type.__getattribute__"))
  rd : PySem.W.readsIn K D (.type "type") = true
  at_ : PySem.W.findCls K (.ref D) (.type "type") "__init__" = some (.val (.builtin initId))
theorem pe_xinitO {D : Addr} {pl : Sem Bool} (F : ExcBaseFacts B newId initId bmB) (k : XiC X.K D initId) (hh : PySem.W.handedIn (.builtin initId) = true) (hg : Gl X x) (hm : X.mg x = some (.ref D)) (ha : PA X (e :: es) ta) (hd : (x == ("__debug__" : Str)) = false := by decide)
    (hc : eval (.Call (.Attribute (.Name x p1) "__init__" p2) (e :: es) [] pos) X.env = (do
      let ov ← eval (.Name x p1) X.env
      standAt p2.atName
      let (f, first) ← holding [ov] (getMethod ov "__init__" pl)
      callWith pos f first (backTo pos (starEach (e :: es) X.env)) (backToKw pos (keywordEach [] X.env))) := by rfl)
    (he : starEach (e :: es) X.env = (false, eval e X.env) :: starEach es X.env := by rfl) (hpl : (backTo pos (starEach es X.env)).any (·.1) = false := by rfl) :
    PE X (.Call (.Attribute (.Name x p1) "__init__" p2) (e :: es) [] pos) (uXI X.K newId bmB ta) := by
  refine ⟨fun pins s σ H Q I h => ?_⟩
  refine PySem.W.methodCall_KW (ld_glob I hg hm ?_ hd) hc
  refine PySem.W.method_cls I.kIn k.ga (PySem.W.cls_value I.kIn k.rd k.at_ hh ?_)
  show wpAny _ _ (callWith pos (Value.builtin initId) [] (backTo pos (starEach (e :: es) X.env)) []) _ _ _
  refine PyProof.Rows.callWith_method1 (thn (ha.run pos pins _ σ H _ (I.tok _) h) fun us s1 z => ?_) he hpl
  obtain ⟨vs, H1, I1, r1, q⟩ := z
  exact uXI_end (F0 := F) I1 r1 q
end
end Bk
set_option Elab.async false
set_option linter.all false
set_option maxRecDepth 100000
set_option maxHeartbeats 4000000
/-! Bk3: list(zip(a, b)) of two tuples or two lists. -/
namespace Bk
open PySem PySem.Spec PyProof.Rows L2
section
variable {prog : Program} {w : World} {A : Around} {E : Value → Shared → Prop} {s : Shared}
/-- k: two tuples, else two lists: an iterator over xs at place i -/
def SIt (h : Heap) (k : Bool) (it l : Addr) (i : Nat) (xs : Array Value) : Prop := match k with
  | true => h.IsTupleIter it l i ∧ h.IsTuple l xs
  | false => h.IsListIter it l i ∧ h.IsList l xs
theorem SIt.keep {h h' : Heap} {k : Bool} {it l : Addr} {i : Nat} {xs : Array Value} (x : SIt h k it l i xs) (ki : ∀ o, h.get? it = some o → h'.get? it = some o) (kl : ∀ o, h.get? l = some o → h'.get? l = some o) : SIt h' k it l i xs := by
  cases k with
  | true =>
    obtain ⟨⟨o, e1, e2⟩, ⟨o', f1, f2⟩⟩ := x
    exact ⟨⟨o, ki o e1, e2⟩, ⟨o', kl o' f1, f2⟩⟩
  | false =>
    obtain ⟨⟨o, e1, e2⟩, ⟨o', f1, f2⟩⟩ := x
    exact ⟨⟨o, ki o e1, e2⟩, ⟨o', kl o' f1, f2⟩⟩
theorem SIt.step {h h' : Heap} {k : Bool} {it l : Addr} {i : Nat} {xs : Array Value} (x : SIt h k it l i xs) (hn : l ≠ it) (ki : match k with | true => h'.IsTupleIter it l (i + 1) | false => h'.IsListIter it l (i + 1)) (kl : Heap.SameBut it h h') : SIt h' k it l (i + 1) xs := by
  cases k with
  | true =>
    obtain ⟨_, ⟨o', f1, f2⟩⟩ := x
    exact ⟨ki, ⟨o', kl.extBut _ _ hn f1, f2⟩⟩
  | false =>
    obtain ⟨_, ⟨o', f1, f2⟩⟩ := x
    exact ⟨ki, ⟨o', kl.extBut _ _ hn f1, f2⟩⟩
theorem sit_item {k : Bool} {it l : Addr} {i : Nat} {xs : Array Value} {x : Value} {Q : Value → Shared → Prop} (hit : SIt s.heap k it l i xs) (hn : l ≠ it) (hx : xs[i]? = some x)
    (hQ : ∀ h', SIt h' k it l (i + 1) xs → Heap.SameBut it s.heap h' → Q x { s with heap := h' }) : wpAny (model prog w) A (Builtin.SmallTypes.nextOf (.ref it)) Q E s := by
  cases k with
  | true => exact RZ.nextOf_tuple_item hit.1 hit.2 hx fun h' a b => hQ h' (hit.step hn a b) b
  | false => exact wpAny_nextOf_list_item hit.1 hit.2 hx fun h' a b => hQ h' (hit.step hn a b) b
theorem sit_end {k : Bool} {it l : Addr} {i : Nat} {xs : Array Value} {Q : Value → Shared → Prop} (hh : A.handled = none) (hit : SIt s.heap k it l i xs) (hx : xs[i]? = none)
    (hE : ∀ h' e, Heap.ExtBut it s.heap h' → (∃ o, h'.get? e = some o ∧ o.cls = .type "StopIteration") → E (.ref e) { s with heap := h' }) : wpAny (model prog w) A (Builtin.SmallTypes.nextOf (.ref it)) Q E s := by
  cases k with
  | true => exact RZ.nextOf_tuple_end hh hit.1 hit.2 hx hE
  | false => exact wpAny_nextOf_list_end hh hit.1 hit.2 hx hE
theorem ne_lo {a b lo : Nat} (g : lo < a) (h : b ≤ lo) : a ≠ b := Nat.ne_of_gt (Nat.lt_of_le_of_lt h g)
/-- the zip at z over two such iterators; the tuple that is out stands above lo -/
structure ZSt (h : Heap) (k : Bool) (lo z TI TO i1 i2 l1 l2 : Addr) (i : Nat) (xs ys : Array Value) : Prop where
  zp : (IsZip h z TI TO .none ∧ IsPair h TO .none .none) ∨ ∃ (T : Addr) (f : Bool), IsZipHeld h z TI TO T f ∧ (∃ o, h.get? T = some o) ∧ lo < T
  ti : IsPair h TI (.ref i1) (.ref i2)
  s1 : SIt h k i1 l1 i xs
  s2 : SIt h k i2 l2 i ys
/-- the addresses as hold the pairs of xs and ys, in order, as tuples; they lie above lo and rise -/
structure Prs (xs ys : Array Value) (lo : Addr) (h : Heap) (as : List Addr) : Prop where
  rise : as.Pairwise (· < ·)
  above : ∀ a ∈ as, lo < a
  pairs : ∀ (j : Nat) (a : Addr), as[j]? = some a → ∃ x y, xs[j]? = some x ∧ ys[j]? = some y ∧ IsPair h a x y
theorem Prs.low {xs ys : Array Value} {lo lo' : Addr} {h : Heap} {as : List Addr} (g : Prs xs ys lo h as) (hl : lo' ≤ lo) : Prs xs ys lo' h as := ⟨g.rise, fun a ha => Nat.lt_of_le_of_lt hl (g.above a ha), g.pairs⟩
section
variable {R : Result → Shared → Prop} {k : Bool} {xs ys : Array Value}
theorem ZSt.keep {h h' : Heap} {lo z TI TO i1 i2 l1 l2 : Addr} {i : Nat} (x : ZSt h k lo z TI TO i1 i2 l1 l2 i xs ys) (S : Addr) (hk : ∀ b o, b ≠ S → h.get? b = some o → h'.get? b = some o) (n : S ≠ z ∧ S ≠ TI ∧ S ≠ TO ∧ S ≠ i1 ∧ S ≠ i2 ∧ S ≠ l1 ∧ S ≠ l2) (hS : S ≤ lo) : ZSt h' k lo z TI TO i1 i2 l1 l2 i xs ys := by
  obtain ⟨n1, n2, n3, n4, n5, n6, n7⟩ := n
  obtain ⟨zp, ti, s1, s2⟩ := x
  refine ⟨?_, hk _ _ n2.symm ti, s1.keep (fun o e => hk _ _ n4.symm e) (fun o e => hk _ _ n6.symm e), s2.keep (fun o e => hk _ _ n5.symm e) fun o e => hk _ _ n7.symm e⟩
  rcases zp with ⟨a, b⟩ | ⟨T, f, a, ⟨o, b⟩, c⟩
  · exact .inl ⟨hk _ _ n1.symm a, hk _ _ n3.symm b⟩
  · exact .inr ⟨T, f, hk _ _ n1.symm a, ⟨o, hk _ _ (ne_lo c hS) b⟩, c⟩
end
end
/-! ### over the layer -/
/-- at ts stand the pairs of xs and ys -/
def Prz (H : Hp) (ts : List Addr) (xs ys : List V) : Prop := ts.length = xs.length ∧ ∀ (j : Nat) (t : Addr), ts[j]? = some t → ∃ x y, xs[j]? = some x ∧ ys[j]? = some y ∧ H t = some (.tup [x, y])
/-- list(zip(a, b)) -/
def uLZ (K : PySem.W.Frag) (ta : TA) : TE := fun σ H Q => ta σ H fun vs H1 => ∃ a b xs ys, vs = [.ref a, .ref b] ∧ xs.length = ys.length ∧ ((SqT K H1 a xs ∧ SqT K H1 b ys) ∨ (SqL K H1 a xs ∧ SqL K H1 b ys)) ∧
  ∀ (H' : Hp) (p : Addr) (ts : List Addr), Ex H1 H' → H1 p = none → (∀ t ∈ ts, H1 t = none) → p ∉ ts → H' p = some (.lst (ts.map V.ref)) → Prz H' ts xs ys → Q (.ref p) H'
end Bk
set_option Elab.async false
set_option linter.all false
set_option maxRecDepth 100000
set_option maxHeartbeats 4000000
/-! Bk4: calls of defs, of built-ins by values; the turns of a reading. -/
namespace Bk
open PySem PySem.Spec PyProof.Rows L2
section
variable {X : Cx}
/-! ### calls of defs -/
theorem passAt0 {σ : L2.St} : PassesAt (L2.CX X.prog X.w) X σ (fun _ _ _ => False) := fun _ _ _ _ _ _ h => by
  obtain ⟨_, _, _, _, _, _, _, _, _, _, _, _, z⟩ := h
  exact z.elim
def uCall (sp : Sp) (dvs : List V) (E : L2.St → XK) (t : TA) : TE := fun σ H Q => t σ H fun vs H1 => sp (vs ++ dvs) H1 Q (E σ)
theorem run_fnD {CX : CXT} {k : Nat} {f : Addr} {fd : FuncData} {ps : List Str} {sp : Sp} {ds : List Value} {dvs : List V} {E : XK} {pins : List (Addr × Obj)} {σ : L2.St} {H : Hp} {s : Shared} {Q : VK} {us : List Value} {vs : List V}
    (F : FnOk X.prog X.w X.K X.mg X.base CX k f fd ps sp) (hr : Room k X.A) (hb : Binds X.K fd ps ds) (hd : Vals dvs ds) (hx : PassesAt CX X σ E) (I : Inv X pins σ H s) (r : Vals vs us) (h : sp (vs ++ dvs) H Q E) :
    wpAny (model X.prog X.w) X.A (call (.ref f) us) (EP X pins σ Q) X.xe s := by
  have r2 : Vals (vs ++ dvs) (us ++ ds) := r.append hd
  have hl : (us ++ ds).length = ps.length := by rw [← r2.length]; exact F.len _ _ _ _ h
  refine wpAny_call (codeAny_mono (F.run X.A X.stack s H ⟨us, []⟩ (us ++ ds) (vs ++ dvs) Q E hr I.env0 (hb s us I.kIn hl) r2 h) fun r s' hq => ?_)
  cases r with
  | error e => exact hx pins H s e s' I hq
  | ok fl =>
    cases fl with
    | ret u => exact I.after hq
    | next => exact False.elim hq
    | brk => exact False.elim hq
    | cont => exact False.elim hq
variable {CX : CXT} {k : Nat} {f : Addr} {fd : FuncData} {ps : List Str} {sp : Sp} {ds : List Value} {dvs : List V} {E : L2.St → XK} {x : Str} {p pos : Pos} {e : Expr} {es : List Expr} {t : TA}
theorem pe_callD (F : FnOk X.prog X.w X.K X.mg X.base CX k f fd ps sp) (hr : Room k X.A) (hg : Gl X x) (hm : X.mg x = some (.ref f)) (hk : PySem.W.keepIn X.K (.ref f) = true) (hb : Binds X.K fd ps ds) (hd : Vals dvs ds) (hx : ∀ σ, PassesAt CX X σ (E σ))
    (ha : PA X (e :: es) t) (hdb : (x == ("__debug__" : Str)) = false := by decide) (he : starEach (e :: es) X.env = (false, eval e X.env) :: starEach es X.env := by rfl) (hpl : (backTo pos (starEach es X.env)).any (·.1) = false := by rfl) :
    PE X (.Call (.Name x p) (e :: es) [] pos) (uCall sp dvs E t) := by
  refine ⟨fun pins s σ H Q I h => ?_⟩
  refine wpAny_Call_Name_kw (ld_glob I hg hm ?_ hdb)
  refine PySem.W.callWith_K (h₀ := X.base) I.ok.mod.kin hk (thn (ha.run pos pins s σ H _ I h) fun us s1 z => ?_) he hpl
  obtain ⟨vs, H1, I1, r, q⟩ := z
  exact ⟨I1.kIn, run_fnD F hr hb hd (hx σ) I1 r q⟩
/-! ### calls of built-ins by values -/
def uAbs : List V → Hp → VK → Prop := fun xs H Q => match xs with
  | [.int i] => Q (.int (i.natAbs : Nat)) H
  | _ => False
def uMax2 : List V → Hp → VK → Prop := fun xs H Q => match xs with
  | [.int i, .int j] => Q (.int (max i j)) H
  | _ => False
theorem uk_max2 (hc : X.calm = true) : CallR X (.builtin "max") uMax2 := by
  intro pins s σ H xs us Q I r h
  unfold uMax2 at h
  split at h
  · rename_i i j
    refine call_max2 hc pins s σ H _ us Q I r ⟨_, _, rfl, ?_⟩
    have z : (if j > i then j else i) = max i j := by split <;> omega
    rw [z]
    exact h
  · exact h.elim
def uMin2 : List V → Hp → VK → Prop := fun xs H Q => match xs with
  | [.int i, .int j] => Q (.int (min i j)) H
  | _ => False
theorem uk_min2 (hc : X.calm = true) : CallR X (.builtin "min") uMin2 := by
  intro pins s σ H xs us Q I r h
  unfold uMin2 at h
  split at h
  · rename_i i j
    refine call_min2 hc pins s σ H _ us Q I r ⟨_, _, rfl, ?_⟩
    have z : (if j < i then j else i) = min i j := by split <;> omega
    rw [z]
    exact h
  · exact h.elim
def b2z (b : Bool) : Int := if b then 1 else 0
def uInt : List V → Hp → VK → Prop := fun xs H Q => match xs with
  | [.int i] => Q (.int i) H
  | [.bl k] => Q (.int (b2z k)) H
  | _ => False
theorem uk_int : CallR X (.type "int") uInt := by
  intro pins s σ H xs us Q I r h
  unfold uInt at h
  split at h
  · exact call_int1 pins s σ H _ us Q I r (.inl ⟨_, rfl, h⟩)
  · exact call_int1 pins s σ H _ us Q I r (.inr ⟨_, rfl, h⟩)
  · exact h.elim
/-- a constant of the module's top -/
theorem pe_con {x : Str} {v : V} {pos : Pos} (hg : Gl X x) (h : ∃ u, X.mg x = some u ∧ RelV v u) (hd : (x == ("__debug__" : Str)) = false := by decide) : PE X (.Name x pos) (tC v) := by
  obtain ⟨u, hm, r⟩ := h
  exact pe_glob hg hm r hd
/-! ### isinstance by what the value is -/
/-- the kinds of values that we meet, as built-in types -/
inductive Ty : PySem.W.Frag → Hp → V → String → Prop where
  | non {K : PySem.W.Frag} {H : Hp} : Ty K H .non "NoneType"
  | bl {K : PySem.W.Frag} {H : Hp} (b : Bool) : Ty K H (.bl b) "bool"
  | int {K : PySem.W.Frag} {H : Hp} (i : Int) : Ty K H (.int i) "int"
  | str {K : PySem.W.Frag} {H : Hp} (z : Str) : Ty K H (.str z) "str"
  | lst {K : PySem.W.Frag} {H : Hp} {a : Addr} {xs : List V} (e : H a = some (.lst xs)) : Ty K H (.ref a) "list"
  | tup {K : PySem.W.Frag} {H : Hp} {a : Addr} {xs : List V} (e : H a = some (.tup xs)) : Ty K H (.ref a) "tuple"
theorem Ty.wide {K : PySem.W.Frag} {H : Hp} {v : V} {t : String} (h : Ty K H v t) : TyX K H v (.type t) := by
  cases h with
  | non => exact .base .non
  | bl b => exact .base (.bl b)
  | int i => exact .base (.int i)
  | str z => exact .base (.str z)
  | lst e => exact .base (.lst e)
  | tup e => exact .base (.tup e)
/-- isinstance(x, T), T a built-in type; x any value of ours -/
def uIs (K : PySem.W.Frag) : List V → Hp → VK → Prop := fun xs H Q => match xs with
  | [x, .ty T] => ∃ (t : String) (b : Bool), Ty K H x t ∧ kitB t T = some b ∧ Q (.bl b) H
  | _ => False
theorem uk_is : CallR X (.builtin "isinstance") (uIs X.K) := by
  intro pins s σ H xs us Q I r h
  unfold uIs at h
  split at h
  · obtain ⟨t, b, ty, e, q⟩ := h
    exact call_isi pins s σ H _ us Q I r ⟨_, _, _, _, b, rfl, .ty _, ty.wide, kit_ty e, q⟩
  · exact h.elim
end
end Bk
set_option Elab.async false
set_option linter.all false
set_option maxRecDepth 100000
set_option maxHeartbeats 4000000
/-! Bk5: the turns of a reading, one lemma a word. -/
namespace Bk
open PySem PySem.Spec PyProof.Rows L2
section
variable {D : Ends} {σ : L2.St} {H : Hp} {Q : VK} {K : PySem.W.Frag} {te ta tb tx : TE} {t u : TS} {c d : TT} {g : TG} {tr : TA} {v : V} {i j : Int} {n m : Nat} {r : R2} {gg : Int → Int → V} {C : Int → Int → Prop} {q : Bool → Hp → Prop} {b : Bool}
/-! statements -/
theorem g_seq (h : t { D with nx := u D } σ H) : tSeq t u D σ H := h
theorem g_asg (h : te σ H fun x H1 => g x σ H1 D.nx) : tAsg te g D σ H := h
theorem g_ret (h : te σ H D.rt) : tRet te D σ H := h
theorem g_retN (h : D.rt .non H) : tRetN D σ H := h
theorem g_drop (h : te σ H fun _ H1 => D.nx σ H1) : tDrop te D σ H := h
theorem g_ifs (h : c σ H fun b H1 => if b = true then t D σ H1 else u D σ H1) : tIfS c t u D σ H := h
theorem g_next (h : D.nx σ H) : tNext D σ H := h
theorem g_par {tA : TA} (h : tA σ H fun vs H1 => ∃ v w, vs = [v, w] ∧ D.nx ((σ.set n (some v)).set m (some w)) H1) : tPar n m tA D σ H := h
theorem g_pair {x y : V} {P : V → V → Prop} (h : P x y) : ∃ v w, [x, y] = [v, w] ∧ P v w := ⟨x, y, rfl, h⟩
theorem g_name {P : L2.St → Hp → Prop} (h : P (σ.set n (some v)) H) : gName n v σ H P := h
theorem g_sub {to ti : TE} {ts : TSet} {P : L2.St → Hp → Prop} (h : to σ H fun o H1 => ti σ H1 fun i H2 => ts o i v H2 fun H3 => P σ H3) : gSub to ti ts v σ H P := h
theorem g_setL {p : Addr} {xs : List V} {P : Hp → Prop} {k : Nat} (hp : H p = some (.lst xs)) (hk : ixN xs.length i = some k) (h : P (upd H p (.lst (xs.set k v)))) : rSetL (.ref p) (.int i) v H P := ⟨p, xs, i, k, rfl, rfl, hp, hk, h⟩
theorem g_tup2 {p : Addr} {x y : V} {t1 t2 : TG} {P : L2.St → Hp → Prop} (hp : H p = some (.tup [x, y])) (h : t1 x σ H fun σ1 H1 => t2 y σ1 H1 P) : gTup K 2 (gCons t1 (gCons t2 gNil)) (.ref p) σ H P := by
  refine ⟨p, [x, y], rfl, sqT hp, rfl, x, [y], rfl, ?_⟩
  have e : (fun σ' H' => gCons t2 gNil [y] σ' H' P) = fun σ1 H1 => t2 y σ1 H1 P := by
    funext σ1 H1
    apply propext
    constructor
    · rintro ⟨_, _, q, h⟩
      cases q
      have e2 : (fun σ' H' => gNil [] σ' H' P) = P := by
        funext σ2 H2
        exact propext ⟨fun z => z.2, fun z => ⟨rfl, z⟩⟩
      rw [e2] at h
      exact h
    · intro h
      refine ⟨y, [], rfl, ?_⟩
      have e2 : (fun σ' H' => gNil [] σ' H' P) = P := by
        funext σ2 H2
        exact propext ⟨fun z => z.2, fun z => ⟨rfl, z⟩⟩
      rw [e2]
      exact h
  rw [e]
  exact h
/-! expressions -/
theorem g_c (h : Q v H) : tC v σ H Q := h
theorem g_op (h : ta σ H fun x H1 => tb σ H1 fun y H2 => r x y H2 Q) : tOp r ta tb σ H Q := h
theorem g_un {f : V → Hp → VK → Prop} (h : ta σ H fun x H1 => f x H1 Q) : tUn f ta σ H Q := h
theorem g_cons {P : List V → Hp → Prop} (h : ta σ H fun x H1 => tr σ H1 fun xs H2 => P (x :: xs) H2) : tCons ta tr σ H P := h
theorem g_nil {P : List V → Hp → Prop} (h : P [] H) : tNil σ H P := h
theorem g_cb {f : List V → Hp → VK → Prop} (h : tr σ H fun vs H1 => f vs H1 Q) : tCB f tr σ H Q := h
theorem g_call {sp : Sp} {dvs : List V} {E : L2.St → XK} (h : tr σ H fun vs H1 => sp (vs ++ dvs) H1 Q (E σ)) : uCall sp dvs E tr σ H Q := h
theorem g_if (h : c σ H fun b H1 => if b = true then ta σ H1 Q else tb σ H1 Q) : tIf c ta tb σ H Q := h
theorem g_iT {A B : Prop} (h : A) : if true = true then A else B := by rw [if_pos rfl]; exact h
theorem g_iF {A B : Prop} (h : B) : if false = true then A else B := by rw [if_neg Bool.false_ne_true]; exact h
theorem g_iNT {A B : Prop} (h : B) : if (!true) = true then A else B := by rw [if_neg (by decide)]; exact h
theorem g_iNF {A B : Prop} (h : A) : if (!false) = true then A else B := by rw [if_pos (by decide)]; exact h
theorem g_isNn (h : Q (.bl true) H) : uIsN .non .non H Q := ⟨rfl, by rw [decide_eq_true rfl]; exact h⟩
theorem g_isNr {a : Addr} (h : Q (.bl false) H) : uIsN (.ref a) .non H Q := ⟨rfl, by rw [decide_eq_false (fun z => nomatch z)]; exact h⟩
theorem g_isNi (h : Q (.bl false) H) : uIsN (.int i) .non H Q := ⟨rfl, by rw [decide_eq_false (fun z => nomatch z)]; exact h⟩
theorem g_notNn (h : Q (.bl false) H) : uNotN .non .non H Q := ⟨rfl, by rw [decide_eq_true rfl]; exact h⟩
theorem g_notNr {a : Addr} (h : Q (.bl true) H) : uNotN (.ref a) .non H Q := ⟨rfl, by rw [decide_eq_false (fun z => nomatch z)]; exact h⟩
theorem g_notNi (h : Q (.bl true) H) : uNotN (.int i) .non H Q := ⟨rfl, by rw [decide_eq_false (fun z => nomatch z)]; exact h⟩
theorem g_notV (h : ta σ H fun x H1 => ∃ c, x = .bl c ∧ Q (.bl (!c)) H1) : tNotV ta σ H Q := h
theorem g_not (h : c σ H fun b H1 => q (!b) H1) : tNot c σ H q := h
theorem g_and (h : c σ H fun b H1 => if b = true then d σ H1 q else q false H1) : tAnd c d σ H q := h
theorem g_or (h : c σ H fun b H1 => if b = true then q true H1 else d σ H1 q) : tOr c d σ H q := h
theorem g_uT (h : te σ H fun x H1 => uTru K x H1 q) : uT K te σ H q := h
theorem g_test (h : te σ H fun x H1 => ∃ k, x = .bl k ∧ q k H1) : tTest te σ H q := h
theorem g_tB (h : te σ H fun x H1 => ∃ c, x = .bl c ∧ q c H1) : tB te σ H q := h
theorem g_bl {P : Bool → Prop} (h : P b) : ∃ k, V.bl b = .bl k ∧ P k := ⟨b, rfl, h⟩
theorem g_chain {r' : R2} (h : ta σ H fun x H1 => tb σ H1 fun y H2 => r x y H2 fun z H3 => ∃ k, z = .bl k ∧ (if k = true then tx σ H3 fun w' H4 => r' y w' H4 Q else Q (.bl false) H3)) : tChain r r' ta tb tx σ H Q := h
theorem g_andV (h : ta σ H fun x H1 => ∃ c, x = .bl c ∧ if c = true then tb σ H1 Q else Q (.bl false) H1) : tAndV ta tb σ H Q := h
theorem g_orV (h : ta σ H fun x H1 => ∃ c, x = .bl c ∧ if c = true then Q (.bl true) H1 else tb σ H1 Q) : tOrV ta tb σ H Q := h
theorem g_tbl (h : q b H) : uTru K (.bl b) H q := h
theorem g_tin (h : q (i != 0) H) : uTru K (.int i) H q := h
theorem g_addI (h : Q (.int (i + j)) H) : uAdd K (.int i) (.int j) H Q := h
theorem g_i0 (h : Q (gg i j) H) : uI0 gg (.int i) (.int j) H Q := h
theorem g_i (h : Q (gg i j) H) (hc : C i j) : uI C gg (.int i) (.int j) H Q := ⟨hc, h⟩
theorem g_neg (h : Q (.int (-i)) H) : uNeg (.int i) H Q := h
theorem g_eqI (h : Q (.bl (decide (V.int i = V.int j))) H) : rEq (.int i) (.int j) H Q := ⟨rfl, h⟩
theorem g_neI (h : Q (.bl (!decide (V.int i = V.int j))) H) : rNe (.int i) (.int j) H Q := ⟨rfl, h⟩
theorem g_eqS {x y : Str} (h : Q (.bl (decide (V.str x = V.str y))) H) : rEq (.str x) (.str y) H Q := ⟨rfl, h⟩
theorem g_neS {x y : Str} (h : Q (.bl (!decide (V.str x = V.str y))) H) : rNe (.str x) (.str y) H Q := ⟨rfl, h⟩
theorem g_neB {x y : Bool} (h : Q (.bl (!decide (V.bl x = V.bl y))) H) : rNe (.bl x) (.bl y) H Q := ⟨rfl, h⟩
theorem g_abs (h : Q (.int (i.natAbs : Nat)) H) : uAbs [.int i] H Q := h
theorem g_max (h : Q (.int (max i j)) H) : uMax2 [.int i, .int j] H Q := h
theorem g_min (h : Q (.int (min i j)) H) : uMin2 [.int i, .int j] H Q := h
theorem g_intI (h : Q (.int i) H) : uInt [.int i] H Q := h
theorem g_intB (h : Q (.int (b2z b)) H) : uInt [.bl b] H Q := h
theorem g_lenL {p : Addr} {xs : List V} (hp : H p = some (.lst xs)) (h : Q (.int (xs.length : Nat)) H) : uLen K [.ref p] H Q := ⟨xs.length, .inl ⟨xs, .inl (sqL hp), rfl⟩, h⟩
theorem g_lenT {p : Addr} {xs : List V} (hp : H p = some (.tup xs)) (h : Q (.int (xs.length : Nat)) H) : uLen K [.ref p] H Q := ⟨xs.length, .inl ⟨xs, .inr (sqT hp), rfl⟩, h⟩
theorem g_lenSq {p : Addr} {xs : List V} (hp : SqL K H p xs) (h : Q (.int (xs.length : Nat)) H) : uLen K [.ref p] H Q := ⟨xs.length, .inl ⟨xs, .inl hp, rfl⟩, h⟩
theorem g_ixL {p : Addr} {xs : List V} (hp : H p = some (.lst xs)) (e : atI xs i = some v) (h : Q v H) : uIx K (.ref p) (.int i) H Q := ⟨xs, v, .inl (sqL hp), e, h⟩
theorem g_ixT {p : Addr} {xs : List V} (hp : H p = some (.tup xs)) (e : atI xs i = some v) (h : Q v H) : uIx K (.ref p) (.int i) H Q := ⟨xs, v, .inr (sqT hp), e, h⟩
theorem g_ixSq {p : Addr} {xs : List V} (hp : SqL K H p xs) (e : atI xs i = some v) (h : Q v H) : uIx K (.ref p) (.int i) H Q := ⟨xs, v, .inl hp, e, h⟩
theorem g_tup (h : tr σ H fun xs H1 => xs.length ≤ sizeLine ∧ ∀ p, H1 p = none → Q (.ref p) (upd H1 p (.tup xs))) : tTup tr σ H Q := h
theorem g_lst (h : tr σ H fun xs H1 => xs.length ≤ sizeLine ∧ ∀ p, H1 p = none → Q (.ref p) (upd H1 p (.lst xs))) : tLst tr σ H Q := h
theorem g_new {xs : List V} {P : Prop} (h : P) (hl : Nat.ble xs.length 1000 = true := by rfl) : xs.length ≤ sizeLine ∧ P := ⟨Nat.le_of_lt (small1000 (Nat.le_of_ble_eq_true hl)), h⟩
theorem g_for {wi : TI} {tb : TS} {D : Ends} {σ : L2.St} {H : Hp} (h : wi σ H fun J H1 => ∃ W : Nat → Nat → L2.St → Hp → Prop, (∃ m, W 0 m σ H1) ∧ ∀ i m σ H, W i m σ H →
  (J.stop i H ∧ D.nx σ H) ∨ (J.go i H ∧ ∃ N : L2.St → Hp → Prop, (∀ σ' H', N σ' H' → ∃ m', m' < m ∧ W (i + 1) m' σ' H') ∧ ∀ x H', J.yld i H x H' → g x σ H' fun σ2 H2 => tb { D with nx := N, ct := N, bk := D.nx } σ2 H2)) : tFor wi g tb D σ H := h
theorem g_rng1 {R : It → Hp → Prop} (h : tr σ H fun vs H1 => ∃ j : Int, vs = [.int j] ∧ -(2 ^ 62) ≤ j ∧ j < 2 ^ 62 ∧ R (Itr 0 j.toNat) H1) : iRng1 tr σ H R := h
theorem g_rng2 {R : It → Hp → Prop} (h : tr σ H fun vs H1 => ∃ i j : Int, vs = [.int i, .int j] ∧ (-(2 ^ 62) ≤ i ∧ i < 2 ^ 62 ∧ -(2 ^ 62) ≤ j ∧ j < 2 ^ 62) ∧ R (Itr i (j - i).toNat) H1) : iRng2 tr σ H R := h
theorem g_bm0 {T : String} {f : V → List V → Hp → VK → Prop} (h : ta σ H fun x H1 => tyV K T x H1 ∧ f x [] H1 Q) : tBM0 K T f ta σ H Q := h
theorem g_bm {T : String} {f : V → List V → Hp → VK → Prop} (h : ta σ H fun x H1 => tyV K T x H1 ∧ tr σ H1 fun xs H2 => f x xs H2 Q) : tBM K T f ta tr σ H Q := h
theorem g_tyL {p : Addr} {xs : List V} {P : Prop} (hp : H p = some (.lst xs)) (h : P) : tyV K "list" (.ref p) H ∧ P := ⟨.inl ⟨rfl, xs, sqL hp⟩, h⟩
theorem g_app {p : Addr} {xs : List V} (hp : H p = some (.lst xs)) (hz : xs.length < sizeLine) (h : Q .non (upd H p (.lst (xs ++ [v])))) : rAppend (.ref p) [v] H Q := ⟨p, xs, v, rfl, rfl, hp, hz, h⟩
end
end Bk
set_option Elab.async false
set_option linter.all false
set_option maxRecDepth 100000
set_option maxHeartbeats 4000000
/-! Bk6: what all laws share: tests, boxes of draws, the law's own end. -/
namespace Bk
open PySem PySem.Spec PyProof.Rows L2
/-! ### tests -/
section
variable {A B : Prop} {i j : Int}
theorem i_d {p : Prop} [Decidable p] (h1 : p → A) (h2 : ¬ p → B) : if decide p = true then A else B := by
  by_cases h : p
  · rw [if_pos (decide_eq_true h)]; exact h1 h
  · rw [if_neg (by simp [h])]; exact h2 h
theorem i_n {p : Prop} [Decidable p] (h1 : ¬ p → A) (h2 : p → B) : if (!decide p) = true then A else B := by
  by_cases h : p
  · rw [if_neg (by simp [h])]; exact h2 h
  · rw [if_pos (by simp [h])]; exact h1 h
theorem i_eqI (h1 : i = j → A) (h2 : i ≠ j → B) : if decide (V.int i = V.int j) = true then A else B := i_d (fun h => h1 (V.int.inj h)) fun h => h2 fun e => h (congrArg V.int e)
theorem i_neI (h1 : i ≠ j → A) (h2 : i = j → B) : if (!decide (V.int i = V.int j)) = true then A else B := i_n (fun h => h1 fun e => h (congrArg V.int e)) fun h => h2 (V.int.inj h)
theorem i_eqS {x y : Str} (h1 : x = y → A) (h2 : x ≠ y → B) : if decide (V.str x = V.str y) = true then A else B := i_d (fun h => h1 (V.str.inj h)) fun h => h2 fun e => h (congrArg V.str e)
theorem i_neS {x y : Str} (h1 : x ≠ y → A) (h2 : x = y → B) : if (!decide (V.str x = V.str y)) = true then A else B := i_n (fun h => h1 fun e => h (congrArg V.str e)) fun h => h2 (V.str.inj h)
end
/-! ### the structure's small parts -/
theorem exm_self {K : PySem.W.Frag} {S : Addr} (h1 : PySem.W.subIn K (.ref S) (.type "BaseException") = some true) (h2 : PySem.W.isClsIn K S = true) (h3 : PySem.W.typeIn K (.ref S) = some (.type "type")) (h4 : PySem.W.subIn K (.ref S) (.ref S) = some true) :
    PySem.W.exmOne K (.ref S) (.ref S) = some true := by
  have a : (PySem.W.subIn K (.ref S) (.type "BaseException") == some true) = true := by rw [h1] <;> rfl
  have b : ((PySem.W.clsIn K S).isSome && PySem.W.typeIn K (.ref S) == some (.type "type")) = true := by
    have z : (PySem.W.clsIn K S).isSome = true := h2
    rw [z, h3] <;> rfl
  show (if (PySem.W.subIn K (.ref S) (.type "BaseException") == some true) = true then (if ((PySem.W.clsIn K S).isSome && PySem.W.typeIn K (.ref S) == some (.type "type")) = true then PySem.W.subIn K (.ref S) (.ref S) else none) else none) = some true
  rw [if_pos a, if_pos b]
  exact h4
/-- what a law promises -/
def spLaw (K : PySem.W.Frag) : Sp := fun vs H Q _ => ∃ (a : Addr) (ns : List Int), vs = [.ref a] ∧ SqL K H a (ns.map V.int) ∧ ns.length ≤ 63 ∧ ∀ H', Q (.bl true) H'
theorem spLaw_of {K : PySem.W.Frag} {H : Hp} {a : Addr} {ns : List Int} (_ : Only H) (hS : SqL K H a (ns.map V.int)) (hl : ns.length ≤ 63) : spLaw K [.ref a] H (fun v _ => v = .bl true) fun _ _ _ => False := ⟨a, ns, rfl, hS, hl, fun _ => rfl⟩
theorem cx_false {P : Program} {w : World} {H : Hp} {s s' : Shared} {e : Value} (h : L2.CX P w [] H s (fun _ _ _ => False) e s') : False := by
  obtain ⟨_, _, _, _, _, _, _, _, _, _, _, _, z⟩ := h
  exact z
/-! ### a box of draws -/
def Box (H : Hp) (p : Addr) : Prop := ∃ a b c : Int, H p = some (.lst [.int a, .int b, .int c])
theorem Box.ex {H H' : Hp} {p : Addr} (b : Box H p) (e : Ex H H') : Box H' p := by
  obtain ⟨x, y, z, h⟩ := b
  exact ⟨x, y, z, e _ _ h⟩
theorem Box.but {H H' : Hp} {p l : Addr} (b : Box H p) (e : But l H H') (n : p ≠ l) : Box H' p := by
  obtain ⟨x, y, z, h⟩ := b
  exact ⟨x, y, z, e _ _ n h⟩
/-- take(box, m): a number from 0 to m - 1 -/
def spTake : Sp := fun vs H Q _ => ∃ (p : Addr) (m : Int), vs = [.ref p, .int m] ∧ Box H p ∧ 0 < m ∧ m.natAbs.log2 < 9000 ∧ ∀ (d : Int) (H' : Hp), 0 ≤ d → d < m → But p H H' → Box H' p → Q (.int d) H'
/-- box(script, k): a new box -/
def spBox (K : PySem.W.Frag) : Sp := fun vs H Q _ => ∃ (s : Addr) (ns : List Int) (k : Nat), vs = [.ref s, .int (k : Int)] ∧ SqL K H s (ns.map V.int) ∧ ns.length ≤ 63 ∧ ∀ (p : Addr) (H' : Hp), H p = none → Ex H H' → Box H' p → Q (.ref p) H'
theorem fmod_pos {a m : Int} (h : 0 < m) : 0 ≤ a.fmod m ∧ a.fmod m < m := by
  rw [Int.fmod_eq_emod_of_nonneg a (Int.le_of_lt h)]
  exact ⟨Int.emod_nonneg _ (Int.ne_of_gt h), Int.emod_lt_of_pos _ h⟩
theorem at_ints {ns : List Int} {i : Nat} (h : i < ns.length) : atI (ns.map V.int) (i : Int) = some (.int ns[i]) := atI_nat (by rw [List.getElem?_map, List.getElem?_eq_getElem h]; rfl)
end Bk
set_option Elab.async false
set_option linter.all false
set_option maxRecDepth 100000
set_option maxHeartbeats 4000000
/-! Bk7: sizes of numbers, the found pair's parts, values told apart. -/
namespace Bk
open PySem PySem.Spec PyProof.Rows L2
/-- within n bits -/
def Bits (n : Nat) (i : Int) : Prop := i.natAbs < 2 ^ n
instance instBits (n : Nat) (i : Int) : Decidable (Bits n i) := inferInstanceAs (Decidable (i.natAbs < 2 ^ n))
theorem Bits.le {n m : Nat} {i : Int} (h : Bits n i) (hm : n ≤ m := by decide) : Bits m i := Nat.lt_of_lt_of_le h (Nat.pow_le_pow_right (by decide) hm)
theorem Bits.sub {n : Nat} {i j : Int} (h : Bits n i) (g : Bits n j) : Bits (n + 1) (i - j) := by
  unfold Bits at *
  rw [Nat.pow_succ]
  omega
theorem Bits.of_le {n : Nat} {i j : Int} (h : Bits n j) (g : i.natAbs ≤ j.natAbs) : Bits n i := Nat.lt_of_le_of_lt g h
theorem Bits.log {n : Nat} {i : Int} (h : Bits n i) (hn : 0 < n := by decide) : i.natAbs.log2 < n := by
  by_cases c : i.natAbs = 0
  · rw [c]
    exact hn
  · exact (Nat.log2_lt c).2 h
theorem Bits.cm {n m : Nat} {i j : Int} (h : Bits n i) (g : Bits m j) (hn : n ≤ 1000 := by decide) (hm : m ≤ 900000 := by decide) : CMm i j := by
  refine .inr (mulL ?_ ?_)
  · exact (h.le hn).log
  · by_cases c : j.natAbs = 0
    · rw [c]
      decide
    · exact Nat.lt_of_lt_of_le ((Nat.log2_lt c).2 g) hm
theorem fdiv_le {i j : Int} (h : j ≠ 0) (d : j ∣ i) : (i.fdiv j).natAbs ≤ i.natAbs := by
  rw [Int.fdiv_eq_ediv_of_dvd d]
  exact Int.natAbs_ediv_le_natAbs _ _
theorem Bits.of_fdiv {n : Nat} {i j : Int} (b : Bits n i) (h : j ≠ 0) (d : j ∣ i) : Bits n (i.fdiv j) := b.of_le (fdiv_le h d)
/-- what the two parts are divided by -/
def fpt (u l : Int) : Int := if l < 0 then 0 - (Int.gcd u l : Nat) else (Int.gcd u l : Nat)
theorem fpt_ne {u l : Int} (h : l ≠ 0) : fpt u l ≠ 0 := by
  have e : Int.gcd u l ≠ 0 := fun z => h (Int.gcd_eq_zero_iff.1 z).2
  unfold fpt
  split <;> omega
theorem fpt_l (u l : Int) : fpt u l ∣ l := by
  unfold fpt
  split
  · rw [Int.zero_sub]
    exact Int.neg_dvd.2 (Int.gcd_dvd_right u l)
  · exact Int.gcd_dvd_right u l
theorem fpt_u (u l : Int) : fpt u l ∣ u := by
  unfold fpt
  split
  · rw [Int.zero_sub]
    exact Int.neg_dvd.2 (Int.gcd_dvd_left u l)
  · exact Int.gcd_dvd_left u l
/-- u / l in lowest terms -/
def fru (u l : Int) : Int := u.fdiv (fpt u l)
def frl (u l : Int) : Int := l.fdiv (fpt u l)
theorem fru_bits {n : Nat} {u l : Int} (h : l ≠ 0) (b : Bits n u) : Bits n (fru u l) := b.of_fdiv (fpt_ne h) (fpt_u u l)
theorem frl_bits {n : Nat} {u l : Int} (h : l ≠ 0) (b : Bits n l) : Bits n (frl u l) := b.of_fdiv (fpt_ne h) (fpt_l u l)
theorem frl_pos {u l : Int} (h : l ≠ 0) : 0 < frl u l := by
  have e : frl u l * fpt u l = l := by
    unfold frl
    rw [Int.fdiv_eq_ediv_of_dvd (fpt_l u l)]
    exact Int.ediv_mul_cancel (fpt_l u l)
  have g : 0 < Int.gcd u l := Nat.pos_of_ne_zero fun z => h (Int.gcd_eq_zero_iff.1 z).2
  by_cases c : l < 0
  · have f : fpt u l = 0 - (Int.gcd u l : Nat) := if_pos c
    rw [f] at e
    by_cases k : 0 < frl u l
    · exact k
    · exfalso
      have : 0 ≤ frl u l * (0 - (Int.gcd u l : Nat)) := Int.mul_nonneg_of_nonpos_of_nonpos (by omega) (by omega)
      omega
  · have f : fpt u l = (Int.gcd u l : Nat) := if_neg c
    rw [f] at e
    by_cases k : 0 < frl u l
    · exact k
    · exfalso
      have : frl u l * (Int.gcd u l : Nat) ≤ 0 := Int.mul_nonpos_of_nonpos_of_nonneg (by omega) (by omega)
      omega
end Bk
set_option Elab.async false
set_option linter.all false
set_option maxRecDepth 100000
set_option maxHeartbeats 4000000
/-! Bk8: two values of one reading are alike: what the laws' comparison needs. -/
namespace Bk
open PySem PySem.Spec PyProof.Rows L2
def D.tag : D → String
  | .non => "NoneType" | .bl _ => "bool" | .int _ => "int" | .str _ => "str" | .tup _ => "tuple" | .lst _ => "list"
theorem Rep.ty {K : PySem.W.Frag} {H : Hp} {d : D} {v : V} (h : Rep H d v) : Ty K H v d.tag := by
  cases d <;> simp only [Rep] at h
  · subst h; exact .non
  · subst h; exact .bl _
  · subst h; exact .int _
  · subst h; exact .str _
  · obtain ⟨a, vs, rfl, e, _⟩ := h; exact .tup e
  · obtain ⟨a, vs, rfl, e, _⟩ := h; exact .lst e
section
variable {K : PySem.W.Frag} {H H0 H1 H2 : Hp} {Q : VK} {d : D} {v w : V}
theorem g_isD {T : String} {b : Bool} (r : Rep H d v) (e : kitB d.tag T = some b) (h : Q (.bl b) H) : uIs K [v, .ty T] H Q := ⟨_, b, r.ty, e, h⟩
theorem g_neBB {b : Bool} (h : Q (.bl false) H) : rNe (.bl b) (.bl b) H Q := ⟨rfl, by rw [decide_eq_true rfl]; exact h⟩
theorem g_ext {l b : Addr} {xs zs : List V} (hl : H l = some (.lst xs)) (hb : H b = some (.lst zs)) (hz : xs.length + zs.length ≤ 1000000) (h : Q .non (upd H l (.lst (xs ++ zs)))) : rExtend (.ref l) [.ref b] H Q :=
  ⟨l, b, xs, zs, rfl, rfl, hl, hb, Nat.le_trans hz (by decide), h⟩
end
section
variable {K : PySem.W.Frag} {H H0 H1 H2 : Hp} {Q : VK} {d : D} {v w : V}
theorem g_lz {ta : TA} {σ : L2.St} (h : ta σ H fun vs H1 => ∃ a b xs ys, vs = [.ref a, .ref b] ∧ xs.length = ys.length ∧ ((SqT K H1 a xs ∧ SqT K H1 b ys) ∨ (SqL K H1 a xs ∧ SqL K H1 b ys)) ∧
  ∀ (H' : Hp) (p : Addr) (ts : List Addr), Ex H1 H' → H1 p = none → (∀ t ∈ ts, H1 t = none) → p ∉ ts → H' p = some (.lst (ts.map V.ref)) → Prz H' ts xs ys → Q (.ref p) H') : uLZ K ta σ H Q := h
end
/-- a pair of two of one reading -/
def Pr (H0 H1 : Hp) (d : D) (t : V) : Prop := ∃ a v w, t = .ref a ∧ H1 a = some (.tup [v, w]) ∧ Rep H0 d v ∧ Rep H0 d w
/-- a pile of such, of a size in all -/
inductive PrS (H0 H1 : Hp) : Nat → List V → Prop where
  | nil : PrS H0 H1 0 []
  | snoc {n : Nat} {ts : List V} {d : D} {t : V} (h : PrS H0 H1 n ts) (r : Pr H0 H1 d t) : PrS H0 H1 (n + d.size) (ts ++ [t])
theorem PrS.len {H0 H1 : Hp} {n : Nat} {ts : List V} (h : PrS H0 H1 n ts) : ts.length ≤ n := by
  induction h with
  | nil => exact Nat.le_refl _
  | @snoc n ts d t h r ih =>
    have := d.size_pos
    rw [List.length_append, List.length_singleton]
    omega
theorem PrS.tk {H0 H1 H2 : Hp} {n : Nat} {ts : List V} (e : Tk H1 H2) (h : PrS H0 H1 n ts) : PrS H0 H2 n ts := by
  induction h with
  | nil => exact .nil
  | snoc h r ih =>
    obtain ⟨a, v, w, rfl, ha, rv, rw'⟩ := r
    exact .snoc ih ⟨a, v, w, rfl, e _ _ ha, rv, rw'⟩
theorem PrS.ext {H0 H1 : Hp} : ∀ {ds : List D} {xs ys : List V} {tl : List Addr} {n : Nat} {ts : List V}, Reps H0 ds xs → Reps H0 ds ys → Prz H1 tl xs ys → PrS H0 H1 n ts → PrS H0 H1 (n + D.sizes ds) (ts ++ tl.map V.ref)
  | [], xs, ys, tl, n, ts, hx, hy, hp, h => by
    simp only [Reps] at hx hy
    subst hx
    have e : tl = [] := List.eq_nil_of_length_eq_zero hp.1
    subst e
    simpa [D.sizes] using h
  | d :: ds, xs, ys, tl, n, ts, hx, hy, hp, h => by
    simp only [Reps] at hx hy
    obtain ⟨x, xr, rfl, rx, hx⟩ := hx
    obtain ⟨y, yr, rfl, ry, hy⟩ := hy
    cases tl with
    | nil => cases hp.1
    | cons t tl =>
      obtain ⟨x', y', ex, ey, ht⟩ := hp.2 0 t rfl
      cases ex
      cases ey
      have hp' : Prz H1 tl xr yr := ⟨Nat.succ.inj hp.1, fun j u hu => by
        obtain ⟨a, b, q⟩ := hp.2 (j + 1) u hu
        exact ⟨a, b, q⟩⟩
      have z := PrS.ext hx hy hp' (h.snoc ⟨t, x, y, rfl, ht, rx, ry⟩)
      have e1 : n + D.sizes (d :: ds) = n + d.size + D.sizes ds := by simp only [D.sizes]; omega
      have e2 : ts ++ (t :: tl).map V.ref = ts ++ [V.ref t] ++ tl.map V.ref := by simp
      rw [e1, e2]
      exact z
/-! ### isinstance of a caught error -/
theorem kit_sub {K : PySem.W.Frag} {C : Addr} {T : String} {b : Bool} (h : PySem.W.subIn K (.ref C) (.type T) = some b) (hm : PySem.W.kitMeta T = true := by decide +kernel) : PySem.W.kitOne K (.ref C) (.type T) = some b := by
  unfold PySem.W.kitOne PySem.W.kitCls
  show (if PySem.W.kitMeta T = true then PySem.W.subIn K (.ref C) (.type T) else none) = some b
  rw [if_pos hm]
  exact h
theorem kit_own {K : PySem.W.Frag} {C D : Addr} {b : Bool} (h : PySem.W.subIn K (.ref C) (.ref D) = some b) (hs : PySem.W.subIn K (.ref C) (.ref C) = some true) (hi : PySem.W.isClsIn K D = true) (ht : PySem.W.typeIn K (.ref D) = some (.type "type")) : PySem.W.kitOne K (.ref C) (.ref D) = some b := by
  unfold PySem.W.kitOne
  by_cases c : (Value.ref C == Value.ref D) = true
  · have e : Value.ref C = Value.ref D := beq_iff_eq.mp c
    rw [e] at h
    rw [if_pos c]
    cases e
    rw [h] at hs
    exact hs.symm
  · rw [if_neg c]
    have z : ((PySem.W.clsIn K D).isSome && PySem.W.typeIn K (.ref D) == some (.type "type")) = true := by
      have z1 : (PySem.W.clsIn K D).isSome = true := hi
      rw [z1, ht] <;> rfl
    show (if ((PySem.W.clsIn K D).isSome && PySem.W.typeIn K (.ref D) == some (.type "type")) = true then PySem.W.subIn K (.ref C) (.ref D) else none) = some b
    rw [if_pos z]
    exact h
/-! ### lowest terms, as the laws find them -/
theorem b2z_bits (b : Bool) : Bits 1 (b2z b) := by cases b <;> decide
theorem Rep.two {H : Hp} {a : Addr} {x y : V} {d e : D} (h : H a = some (.tup [x, y])) (r : Rep H d x) (s : Rep H e y) : Rep H (.tup [d, e]) (.ref a) := by
  simp only [Rep, Reps]
  exact ⟨a, _, rfl, h, x, _, rfl, r, y, _, rfl, s, rfl⟩
theorem Rep.three {H : Hp} {a : Addr} {x y z : V} {d e f : D} (h : H a = some (.tup [x, y, z])) (r : Rep H d x) (s : Rep H e y) (t : Rep H f z) : Rep H (.tup [d, e, f]) (.ref a) := by
  simp only [Rep, Reps]
  exact ⟨a, _, rfl, h, x, _, rfl, r, y, _, rfl, s, z, _, rfl, t, rfl⟩
theorem Rep.i {H : Hp} (n : Int) : Rep H (.int n) (.int n) := by simp only [Rep]
theorem Rep.s {H : Hp} (n : Str) : Rep H (.str n) (.str n) := by simp only [Rep]
theorem Rep.b {H : Hp} (n : Bool) : Rep H (.bl n) (.bl n) := by simp only [Rep]
theorem Rep.n {H : Hp} : Rep H .non .non := by simp only [Rep]
/-- a fraction of the laws, as it stands -/
def Fr (H : Hp) (p : Addr) (a b : Int) : Prop := H p = some (.tup [.int a, .int b]) ∧ Bits 300 a ∧ Bits 300 b ∧ 0 < b
/-- such a one, as a value -/
def Good (H : Hp) (v : V) : Prop := ∃ (p : Addr) (a b : Int), v = .ref p ∧ Fr H p a b
theorem Good.ex {H H' : Hp} {v : V} (e : Ex H H') (g : Good H v) : Good H' v := by
  obtain ⟨p, a, b, rfl, h, x⟩ := g
  exact ⟨p, a, b, rfl, e _ _ h, x⟩
theorem Good.tk {H H' : Hp} {v : V} (e : Tk H H') (g : Good H v) : Good H' v := by
  obtain ⟨p, a, b, rfl, h, x⟩ := g
  exact ⟨p, a, b, rfl, e _ _ h, x⟩
theorem Good.fr {H : Hp} {p : Addr} {u l : Int} (h : H p = some (.tup [.int (fru u l), .int (frl u l)])) (hl : l ≠ 0) (bu : Bits 300 u) (bl : Bits 300 l) : Good H (.ref p) := ⟨p, _, _, rfl, h, fru_bits hl bu, frl_bits hl bl, frl_pos hl⟩
section
variable {K : PySem.W.Frag} {H : Hp} {Q : VK} {σ : L2.St}
theorem g_sl {r : V → Option Int → Option Int → Hp → VK → Prop} {te : TE} {tl th : TO} (h : te σ H fun x H1 => tl σ H1 fun l H2 => th σ H2 fun u H3 => r x l u H3 Q) : tSl r te tl th σ H Q := h
theorem g_noP {P : Option Int → Hp → Prop} (h : P none H) : tNoPart σ H P := h
theorem g_part {te : TE} {P : Option Int → Hp → Prop} (h : te σ H fun x H1 => ∃ i, x = .int i ∧ P (some i) H1) : tPart te σ H P := h
theorem g_exI {i : Int} {P : Int → Prop} (h : P i) : ∃ j, V.int i = .int j ∧ P j := ⟨i, rfl, h⟩
end
theorem g_zipA {K : PySem.W.Frag} {ta : TA} {σ : L2.St} {H : Hp} {R : It → Hp → Prop} (h : ta σ H fun vs H1 => ∃ a b xs ys, vs = [.ref a, .ref b] ∧ ((SqL K H1 a xs ∧ SqL K H1 b ys ∧ R (Itz K a b) H1) ∨ (SqT K H1 a xs ∧ SqT K H1 b ys ∧ R (RZ.ItzT K a b) H1))) : RZ.iZipA K ta σ H R := h
theorem cutV_mem {xs : List V} {lo hi : Option Int} {v : V} (h : v ∈ cutV xs lo hi) : v ∈ xs := List.mem_of_mem_drop (List.mem_of_mem_take h)
end Bk
set_option Elab.async false
set_option linter.all false
set_option maxRecDepth 100000
set_option maxHeartbeats 4000000
/-! Bk9: enumerate over a tuple. -/
namespace Bk
open PySem PySem.Spec PyProof.Rows L2
open AutoSeq1 (wpAny_loadPart')
def tupO (dct : Option Addr) (xs : Array Value) (n : Nat) (sl : Array (Option Value)) : Obj := { cls := .type "tuple", dict := dct, data := .seq xs n, slots := sl }
def tuiO (l : Addr) : Obj := { cls := .type "tuple_iterator", data := .fields #[.ref l, .int 0 0] }
def enuO (i : Addr) : Obj := { cls := .type "enumerate", data := .fields #[.none, .bool false, .ref i, rawInt 0, .none, .none] }
theorem meets_enumT (l : Addr) (xs : Array Value) (n : Nat) (dct : Option Addr) (sl : Array (Option Value)) :
    Meets (Builtin.«enumerate.__new__» ⟨[.type "enumerate", .ref l], []⟩) (fun _ R s => s.heap.get? l = some (tupO dct xs n sl) ∧ R (.ok (.ret (.ref (s.heap.push (tuiO l)).objs.size))) { s with heap := (s.heap.push (tuiO l)).push (enuO s.heap.objs.size) }) :=
  .of_wp fun prog w A R s z => by
    obtain ⟨hp, ge, dr, tk, os⟩ := s
    obtain ⟨hl, h⟩ := z
    have s0 := sub_enumerate
    unfold tupO at hl
    have hT : Heap.IsTuple (Shared.heap ⟨hp, ge, dr, tk, os⟩) l xs := ⟨_, hl, rfl, n, rfl⟩
    wp_walk using (wpAny_loadPart' hl)
    (refine wpAny_stack_any fun st => wpAny_pure ?_); split
    · rename_i c _ _ _ _ _
      cases (c == Value.type "enumerate") <;> (wp_walk using (wpAny_loadPart' hl), (wpAny_pyIter_tuple hT)) <;> exact ⟨_, rfl, h⟩
    · wp_walk using (wpAny_loadPart' hl), (wpAny_pyIter_tuple hT)
      exact ⟨_, rfl, h⟩
section
variable {prog : Program} {w : World} {A : Around} {E : Value → Shared → Prop} {s : Shared}
theorem call_enumT {l : Addr} {xs : Array Value} {Q : Value → Shared → Prop} (hT : s.heap.IsTuple l xs)
    (h : ∀ g, IsEnum g (s.heap.objs.size + 1) s.heap.objs.size 0 .none → g.IsTupleIter s.heap.objs.size l 0 → (∀ c o, s.heap.get? c = some o → g.get? c = some o) → Q (.ref (s.heap.objs.size + 1)) { s with heap := g }) :
    wpAny (model prog w) A (call (.type "enumerate") [.ref l]) Q E s := by
  obtain ⟨⟨c0, dc, da, sl⟩, hl, e1, n, e2⟩ := hT
  cases (show c0 = .type "tuple" from e1)
  cases (show da = .seq xs n from e2)
  refine callType_new F.called_enumerate (by decide) (F.typeCall_enumerate_1 _) (F.newCall_enumerate_1 _) (fun x => F.args_object_init_2 x _) F.entry_enumerate_new (meets_enumT l xs n dc sl) ⟨hl, ?_⟩
  have z1 : (s.heap.push (tuiO l)).objs.size = s.heap.objs.size + 1 := Heap.size_push ..
  have g2 : ((s.heap.push (tuiO l)).push (enuO s.heap.objs.size)).get? (s.heap.push (tuiO l)).objs.size = some (enuO s.heap.objs.size) := Heap.get?_push_size _ rfl
  have g1 : ((s.heap.push (tuiO l)).push (enuO s.heap.objs.size)).get? s.heap.objs.size = some (tuiO l) := Heap.get?_push_of_some _ (Heap.get?_push_size _ rfl)
  rw [z1] at g2
  show _ ∧ _
  rw [z1]
  exact ⟨⟨_, g2, rfl⟩, h _ g2 ⟨_, g1, rfl, rfl⟩ fun c o x => Heap.get?_push_of_some _ (Heap.get?_push_of_some _ x)⟩
theorem enumT_end {e it l : Addr} {i : Nat} {xs : Array Value} {old : Value} {Q : Option Value → Shared → Prop} (hh : A.handled = none) (he : IsEnum s.heap e it i old) (hit : s.heap.IsTupleIter it l i) (hT : s.heap.IsTuple l xs) (hx : xs[i]? = none)
    (hQ : ∀ g, Heap.ExtBut it s.heap g → Q none { s with heap := g }) : wpAny (model prog w) A (pyNext (.ref e)) Q E s := by
  have ty : s.TypeIs (.ref e) "enumerate" := ⟨_, he, rfl⟩
  unfold pyNext
  refine wpAny_bind (wpAny_attempt (wpAny_callSpecial?_slot (name := Str.ofString "__next__") ty F.slot_enumerate_next (wpAny_call_entry F.slot_enumerate_next ty F.entry_enumerate_next ?_ (F.args_enumerate_next_1 _))))
  show wpAny _ _ (field (.ref e) 2 >>= fun _ => _) _ _ s
  refine wpAny_bind (wpAny_field he rfl (x := .ref it) rfl (wpAny_bind (wpAny_nextOf_tuple_end (by exact hh) hit hT hx fun g z eb ⟨o, ho, hc⟩ => ?_)))
  exact wpAny_bind (wpAny_isInstance (T := "StopIteration") (b := true) ⟨o, ho, hc⟩ isSubtype_stop (wpAny_pure (hQ _ eb)))
end
/-- the turns of enumerate over the tuple at a -/
def ItE (K : PySem.W.Frag) (a : Addr) : It :=
  ⟨fun i H => ∃ (xs : List V) (x : V), SqT K H a xs ∧ xs[i]? = some x,
    fun i H v H' => ∃ (T : Addr) (x : V), v = .ref T ∧ H T = none ∧ H' = upd H T (.tup [.int (i : Nat), x]) ∧ ∀ xs, SqT K H a xs → xs[i]? = some x,
    fun i H => ∃ xs : List V, SqT K H a xs ∧ xs.length ≤ i⟩
theorem turn_enumT {P : Program} {w : World} {K : PySem.W.Frag} {elts : List Expr} {kk : Nat} {tpos : Pos} (a e it : Addr) (nt : a ≠ it) (ea : e ≠ a) :
    Turn P w K (.Tuple elts kk tpos) (ItE K a) [e, it] e (fun i h => (∃ old, IsEnum h e it ((i : Nat) : Int) old) ∧ h.IsTupleIter it a i ∧ e ≠ it) where
  mem := by simp
  obj := fun i h st b hb => by
    obtain ⟨⟨old, h1⟩, ⟨o, h2, _, h3⟩, _⟩ := st
    rcases (show b = e ∨ b = it by simpa using hb) with rfl | rfl
    · exact ⟨_, h1, fun v q => nomatch q⟩
    · exact ⟨o, h2, fun v q => by rw [h3] at q; cases q⟩
  keep := fun i h h' st k => ⟨st.1.elim fun old z => ⟨old, k e (by simp) _ z⟩, st.2.1.at fun o q => k it (by simp) o q, st.2.2⟩
  item := by
    intro X eP ew eK hc i pins s σ H E I hf st hg
    subst eP ew eK
    obtain ⟨⟨old, he⟩, hit, hne⟩ := st
    obtain ⟨xs, x, hq, hx⟩ := hg
    obtain ⟨its, rv, p, _⟩ := I.tuple hq
    obtain ⟨u, hu, ru⟩ := rv.get hx
    have le := Heap.lt_size he
    have li : it < s.heap.objs.size := hit.elim fun _ q => Heap.lt_size q.1
    have hlt : i < its.toArray.size := by
      rw [List.size_toArray]
      exact (List.getElem?_eq_some_iff.1 hu).1
    refine wpAny_pyNext_enum_itemD (Draws.tuple (A := X.A.in1) (show X.A.in1.handled = none from I.ok.hd hc) it a nt its.toArray) he ⟨hit, p⟩ hlt hne (by simpa using ⟨hne, ea⟩) fun y g tk py ho hst hT hsz hk => ?_
    have ey : y = u := by
      have z : its.toArray[i]? = some u := by simpa using hu
      exact Option.some.inj (py.symm.trans z)
    subst ey
    refine ⟨_, rfl, wpAny_letOwnedTupleGo_enum (s := { s with heap := g, toks := tk + 1 }) ho fun g2 h2 sb => ?_⟩
    have hT2 : g2.get? s.heap.objs.size = some { cls := .type "tuple", data := .seq #[.int i tk, y] } := (sb.2 _ (Nat.ne_of_gt le)).trans hT
    have new : ObjOk X.prog X.w (upd H s.heap.objs.size (.tup [.int (i : Nat), x])) g2 s.heap.objs.size (.tup [.int (i : Nat), x]) := ⟨(show 2 ≤ sizeLine by decide), [.int i tk, y], .cons ⟨_, rfl⟩ (.cons ru .nil), ⟨_, hT2, rfl, _, rfl⟩⟩
    have I1 : Inv X pins σ (upd H s.heap.objs.size (.tup [.int (i : Nat), x])) { s with heap := g2, toks := tk + 1 } := I.turnedNew (ch := [e, it]) (fun b o nb q => (sb.2 b (fun z => nb (by simp [z]))).trans (hk b o (fun z => nb (by simp [z])) (fun z => nb (by simp [z])) q)) hf (Nat.le_refl _) new
    refine ⟨.ref s.heap.objs.size, _, I1, rfl, ⟨_, x, rfl, I.hok.fresh (Nat.le_refl _), rfl, fun ys hy => by rw [I.tuple_inj hy hq]; exact hx⟩, ⟨⟨y, ?_⟩, hst.1.at fun o q => (sb.2 it (Ne.symm hne)).trans q, hne⟩, fun b hb => ?_⟩
    · have z : ((i + 1 : Nat) : Int) = (i : Int) + 1 := Int.natCast_succ i
      rw [z]
      exact h2
    · have lb : b < s.heap.objs.size := by
        rcases (show b = e ∨ b = it by simpa using hb) with rfl | rfl
        · exact le
        · exact li
      rw [upd_ne (Nat.ne_of_lt lb)]
      exact (hf b hb).1
  done := by
    intro X eP ew eK hc i pins s σ H E I hf st hg
    subst eP ew eK
    obtain ⟨⟨old, he⟩, hit, hne⟩ := st
    obtain ⟨xs, hq, hx⟩ := hg
    obtain ⟨its, rv, p, _⟩ := I.tuple hq
    obtain ⟨f0, f1, f2, f3, f4, f5⟩ := hf it (by simp)
    have hl := rv.length
    have i0 : i = its.toArray.size ∨ its.toArray.size < i := by
      rw [List.size_toArray]
      omega
    exact enumT_end (I.ok.hd hc) he hit p (by simp; omega) fun g eb => ⟨rfl, I.turned (t' := s.toks) (fun b o hb q => eb b o hb q) f0 f1 f3 f4 f5⟩
  self := fun A i s Q E st h => let ⟨⟨_, he⟩, _⟩ := st; wpAny_pyIter_enum he h
end Bk
set_option Elab.async false
set_option linter.all false
set_option maxRecDepth 100000
set_option maxHeartbeats 4000000
/-! Bk10: walks over enumerate; in, slices, tuple(..), join, all, dicts by readings that compute. -/
namespace Bk
open PySem PySem.Spec PyProof.Rows L2
def iEnumT (K : PySem.W.Frag) (ta : TA) : TI := fun σ H R => ta σ H fun vs H1 => ∃ a xs, vs = [.ref a] ∧ SqT K H1 a xs ∧ R (ItE K a) H1
section
variable {X : Cx}
theorem pi_enumT {e : Expr} {ta : TA} {p pos tpos : Pos} {elts : List Expr} {kk : Nat} (hg : Gl X "enumerate") (hm : X.mg "enumerate" = none) (ha : PA X [e] ta) (hs : starEach [e] X.env = [(false, eval e X.env)] := by rfl) : PI X (.Tuple elts kk tpos) (.Call (.Name "enumerate" p) [e] [] pos) (iEnumT X.K ta) := by
  refine ⟨fun pins s σ H R I h => ?_⟩
  refine Call_ (ld_blt I hg hm PyProof.Rows.boot_enumerate (PyProof.Rows.callWith_type1 (thn (ha.run pos pins s σ H _ I h) fun us s1 ⟨vs, H1, I1, r1, a, xs, ex, hq, q⟩ => ?_) hs rfl))
  cases ex
  cases r1 with
  | cons r rr =>
    cases rr
    cases r
    obtain ⟨its, rv, p', _⟩ := I1.tuple hq
    obtain ⟨o, ho, _⟩ := id p'
    have la := Heap.lt_size ho
    refine call_enumT (show s1.heap.IsTuple a its.toArray from p') fun g he hit hk => wpAny_pyIter_enum he ?_
    have I2 : Inv X pins σ H1 { s1 with heap := g } := I1.kept (t' := s1.toks) hk
    refine ⟨s1.heap.objs.size + 1, [s1.heap.objs.size + 1, s1.heap.objs.size], _, _, H1, rfl, I2, turn_enumT a (s1.heap.objs.size + 1) s1.heap.objs.size (Nat.ne_of_lt la) (Nat.ne_of_gt (Nat.lt_succ_of_lt la)), ⟨⟨.none, he⟩, hit, Nat.succ_ne_self _⟩, fun b hb => ?_, q⟩
    have lb : s1.heap.objs.size ≤ b := by
      rcases (show b = s1.heap.objs.size + 1 ∨ b = s1.heap.objs.size by simpa using hb) with z | z
      · exact z ▸ Nat.le_succ _
      · exact z ▸ Nat.le_refl _
    exact I1.fpOk lb (I1.hok.fresh lb)
def uEnum (K : PySem.W.Frag) (ta : TA) : TI := fun σ H R => iEnum K ta σ H R ∨ iEnumT K ta σ H R
theorem ui_enum {e : Expr} {ta : TA} {p pos tpos : Pos} {elts : List Expr} {kk : Nat} (hg : Gl X "enumerate") (hm : X.mg "enumerate" = none) (ha : PA X [e] ta) (hs : starEach [e] X.env = [(false, eval e X.env)] := by rfl) : PI X (.Tuple elts kk tpos) (.Call (.Name "enumerate" p) [e] [] pos) (uEnum X.K ta) :=
  pi_or (pi_enum hg hm ha hs) (pi_enumT hg hm ha hs)
/-- as ut, the facts K told (within a comprehension) -/
theorem utK (K : PySem.W.Frag) {e : Expr} {te : TE} (h : PE X e te) (hK : X.K = K := by rfl) (he : ∀ whole, isTrue e X.env whole = (do let v ← whole; standAt e.pos; holding [v] (truthy v)) := by intro _; rfl) : PT X e (uT K te) := by
  subst hK
  exact ut h he
/-- in: a sign in a text, a flat thing in a list or a tuple -/
def uIn (K : PySem.W.Frag) (neg : Bool) : R2 := fun x y H Q => match x, y with
  | .str c, .str z => c.cps.size = 1 ∧ Q (.bl (if neg then !decide (c.cps.toList.headD 0 ∈ z.cps.toList) else decide (c.cps.toList.headD 0 ∈ z.cps.toList))) H
  | x, .ref p => ∃ xs, (SqL K H p xs ∨ SqT K H p xs) ∧ flatV x = true ∧ xs.all flatV = true ∧ Q (.bl (if neg then !inV x xs else inV x xs)) H
  | _, _ => False
theorem one_sign {c : Str} (h : c.cps.size = 1) : c = ⟨#[c.cps.toList.headD 0]⟩ := by
  obtain ⟨⟨l⟩⟩ := c
  match l, h with
  | [a], _ => rfl
theorem uo_in : OpR X (compareOp .In) (uIn X.K false) := by
  intro pins s σ H x y v u Q I rx ry h
  unfold uIn at h
  split at h
  · rename_i c z
    exact op_in_sign pins s σ H _ _ v u Q I rx ry ⟨_, z, congrArg V.str (one_sign h.1), rfl, h.2⟩
  · obtain ⟨xs, a, b, c, d⟩ := h
    exact op_in_seq pins s σ H _ _ v u Q I rx ry ⟨_, xs, rfl, a, b, c, d⟩
  · exact h.elim
end
theorem walk_enumT {K : PySem.W.Frag} {a : Addr} {xs : List V} : Walk (ItE K a) xs.length (fun H => SqT K H a xs) (YPair (fun i => some (.int (i : Nat))) (fun i => xs[i]?)) := by
  refine ⟨fun i _ hi q => ⟨xs, xs[i], q, by simp [hi]⟩, fun _ q => ⟨xs, q, Nat.le_refl _⟩, fun i H v H' _ q y => ?_⟩
  obtain ⟨T, x, h1, h2, h3, h4⟩ := y
  exact ⟨T, _, x, h1, h2, h3, rfl, h4 xs q⟩
section
variable {X : Cx}
theorem uo_notIn : OpR X (compareOp .NotIn) (uIn X.K true) := by
  intro pins s σ H x y v u Q I rx ry h
  unfold uIn at h
  split at h
  · rename_i c z
    exact op_notIn_sign pins s σ H _ _ v u Q I rx ry ⟨_, z, congrArg V.str (one_sign h.1), rfl, h.2⟩
  · obtain ⟨xs, a, b, c, d⟩ := h
    exact op_notIn_seq pins s σ H _ _ v u Q I rx ry ⟨_, xs, rfl, a, b, c, d⟩
  · exact h.elim
/-- a slice of a text, a list, a tuple -/
def uSl (K : PySem.W.Frag) : V → Option Int → Option Int → Hp → VK → Prop := fun x lo hi H Q => match x with
  | .str z => z.length ≤ sizeLine ∧ Q (.str (cutS z lo hi)) H
  | .ref a => rSlL K (.ref a) lo hi H Q ∨ rSlA K (.ref a) lo hi H Q
  | _ => False
theorem us_sl : SlR X (uSl X.K) := by
  intro pins s σ H x v vl vu lo hi sl Q I rx hs pl pu h
  unfold uSl at h
  split at h
  · exact sl_str pins s σ H _ v vl vu lo hi sl Q I rx hs pl pu ⟨_, rfl, h⟩
  · exact (sl_list.or sl_tupA) pins s σ H _ v vl vu lo hi sl Q I rx hs pl pu h
  · exact h.elim
/-- tuple(xs), xs a list -/
def uTup (K : PySem.W.Frag) : List V → Hp → VK → Prop := fun xs H Q => match xs with
  | [.ref p] => ∃ ys, (SqL K H p ys ∧ ∀ l, H l = none → Q (.ref l) (upd H l (.tup ys))) ∨ (SqT K H p ys ∧ Q (.ref p) H)
  | _ => False
theorem uk_tup : CallR X (.type "tuple") (uTup X.K) := by
  intro pins s σ H xs us Q I r h
  unfold uTup at h
  split at h
  · obtain ⟨ys, h⟩ := h
    exact call_tuple_of pins s σ H _ us Q I r ⟨_, ys, rfl, h⟩
  · exact h.elim
end
section
variable {K : PySem.W.Frag} {H : Hp} {Q : VK} {σ : L2.St} {neg : Bool}
theorem g_lcU {wi : TI} {g : TG} {tt : TT} {te : TE} {vs : List Nat} (h : wi σ H fun J H1 => ∀ D, H1 D = none → ∃ W : Nat → Nat → Hp → Prop, (∃ m, W 0 m (upd H1 D (.lst []))) ∧ ∀ i m H, W i m H →
    (J.stop i H ∧ Q (.ref D) H) ∨ (J.go i H ∧ ∃ Nx : Hp → Prop, (∀ H', Nx H' → ∃ m', m' < m ∧ W (i + 1) m' H') ∧ ∀ x H', J.yld i H x H' → g x (wipe σ vs) H' fun σ2 H2 => wipe σ2 vs = wipe σ vs ∧ tt σ2 H2 fun b H3 =>
      if b = true then te σ2 H3 fun y H4 => ∃ acc, H4 D = some (.lst acc) ∧ acc.length < sizeLine ∧ Nx (upd H4 D (.lst (acc ++ [y]))) else Nx H3)) : tLc wi g tt te vs σ H Q := h
theorem g_yes {q : Bool → Hp → Prop} (h : q true H) : tYes σ H q := h
theorem g_inS {c z : Str} (e : c.cps.size = 1) (h : Q (.bl (decide (c.cps.toList.headD 0 ∈ z.cps.toList))) H) : uIn K false (.str c) (.str z) H Q := ⟨e, h⟩
theorem g_slS {z : Str} {lo hi : Option Int} (e : z.length ≤ 1000000) (h : Q (.str (cutS z lo hi)) H) : uSl K (.str z) lo hi H Q := ⟨Nat.le_trans e (by decide), h⟩
theorem g_ixS {z : Str} {i : Int} {c : Nat} (e : atI z.cps.toList i = some c) (hz : z.length ≤ 1000000) (h : Q (.str ⟨#[c]⟩) H) : uIx K (.str z) (.int i) H Q := ⟨Nat.le_trans hz (by decide), c, e, h⟩
theorem g_tupOf {p : Addr} {ys : List V} (hp : H p = some (.lst ys)) (h : ∀ l, H l = none → Q (.ref l) (upd H l (.tup ys))) : uTup K [.ref p] H Q := ⟨ys, .inl ⟨sqL hp, h⟩⟩
theorem g_lenStr {z : Str} (e : z.length ≤ 1000000) (h : Q (.int (z.length : Nat)) H) : uLen K [.str z] H Q := ⟨Nat.le_trans e (by decide), h⟩
theorem g_seqLs {td : TE} {R : It → Hp → Prop} (h : td σ H fun x H1 => ∃ a, x = .ref a ∧ (∃ xs, SqL K H1 a xs) ∧ R (Itl K a) H1) : uSeq K td σ H R := .inl h
theorem g_seqTs {td : TE} {R : It → Hp → Prop} (h : td σ H fun x H1 => ∃ a, x = .ref a ∧ (∃ xs, SqT K H1 a xs) ∧ R (Itt K a) H1) : uSeq K td σ H R := .inr (.inl h)
theorem g_enT {ta : TA} {R : It → Hp → Prop} (h : ta σ H fun vs H1 => ∃ a xs, vs = [.ref a] ∧ SqT K H1 a xs ∧ R (ItE K a) H1) : uEnum K ta σ H R := .inr h
theorem g_all {a : Addr} {bs : List Bool} (ha : H a = some (.lst (bs.map V.bl))) (h : Q (.bl (bs.all id)) H) : rAll K [.ref a] H Q := ⟨a, bs, rfl, sqL ha, h⟩
theorem g_seqSs {td : TE} {R : It → Hp → Prop} (h : td σ H fun v H1 => ∃ x, v = .str x ∧ R (Its x) H1) : uSeq K td σ H R := .inr (.inr h)
/-! dicts -/
section
variable {td ty tv tx : TE} {D : Ends} {p : Addr} {kvs : List (L2.Key × V)} {s : Str} {v z : V}
theorem g_dg (h : td σ H fun x H1 => ty σ H1 fun y H2 => ∃ a v, x = .ref a ∧ DGet H2 a y (some v) ∧ Q v H2) : tDGet td ty σ H Q := h
theorem g_dgS {P : V → Prop} (hp : H p = some (.dK kvs)) (e : valV kvs (.inr s) = some v) (h : P v) : ∃ a v, V.ref p = .ref a ∧ DGet H a (.str s) (some v) ∧ P v := ⟨p, v, rfl, by rw [← e]; exact DGet.k (k := .inr s) hp, h⟩
theorem g_di (h : ty σ H fun y H1 => td σ H1 fun x H2 => ∃ a o, x = .ref a ∧ DGet H2 a y o ∧ Q (.bl o.isSome) H2) : tDIn ty td σ H Q := h
theorem g_dni (h : ty σ H fun y H1 => td σ H1 fun x H2 => ∃ a o, x = .ref a ∧ DGet H2 a y o ∧ Q (.bl (!o.isSome)) H2) : tDNotIn ty td σ H Q := h
theorem g_dp (h : tv σ H fun v H1 => td σ H1 fun x H2 => ty σ H2 fun y H3 => ∃ a H4, x = .ref a ∧ DPut H3 a y v H4 ∧ D.nx σ H4) : sDPut td ty tv D σ H := h
theorem g_dpS {P : Hp → Prop} (hp : H p = some (.dK kvs)) (hl : kvs.length ≤ 1000000) (h : P (upd H p (.dK (putK kvs (.inr s) v)))) : ∃ a H4, V.ref p = .ref a ∧ DPut H a (.str s) v H4 ∧ P H4 := ⟨p, _, rfl, DPut.k (k := .inr s) hp (Nat.lt_of_le_of_lt hl (by decide)), h⟩
theorem g_ds (h : td σ H fun x H1 => ∃ a, x = .ref a ∧ IsD H1 a ∧ ty σ H1 fun y H2 => tx σ H2 fun z H3 => ∃ (kvs : List (L2.Key × V)) (k : L2.Key), H3 a = some (.dK kvs) ∧ y = kV k ∧ kvs.length < sizeLine ∧
  (∀ v, valV kvs k = some v → Q v H3) ∧ (valV kvs k = none → Q z (upd H3 a (.dK (putK kvs k z))))) : tDSetd td ty tx σ H Q := h
end
end
/-! ### names and woods -/
def lettersS : Str := "abcdefghijklmnopqrstuvwxyz"
def isName (s : Str) : Bool := !decide (s = "kind") && decide (1 ≤ s.length ∧ s.length ≤ 6) && s.cps.toList.all fun c => decide (c ∈ lettersS.cps.toList)
/-- kind, its makers: name and parts -/
abbrev Mk := Str × List Str
abbrev Wd := List (Str × List Mk)
def partsD (ps : List Str) : D := .tup (ps.map D.str)
def mkD (m : Mk) : D := .tup [.str m.1, partsD m.2]
def kindD (k : Str × List Mk) : D := .tup [.str k.1, .tup (k.2.map mkD)]
def woodD (w : Wd) : D := .tup (w.map kindD)
theorem Rep.strI {H : Hp} {s : Str} {v : V} (h : Rep H (.str s) v) : v = .str s := by simpa only [Rep] using h
theorem Rep.twoI {H : Hp} {d e : D} {v : V} (h : Rep H (.tup [d, e]) v) : ∃ a x y, v = .ref a ∧ H a = some (.tup [x, y]) ∧ Rep H d x ∧ Rep H e y := by
  simp only [Rep, Reps] at h
  obtain ⟨a, _, rfl, ha, x, _, rfl, rx, y, _, rfl, ry, rfl⟩ := h
  exact ⟨a, x, y, rfl, ha, rx, ry⟩
theorem Rep.tupI {H : Hp} {ds : List D} {v : V} (h : Rep H (.tup ds) v) : ∃ a xs, v = .ref a ∧ H a = some (.tup xs) ∧ Reps H ds xs := by simpa only [Rep] using h
theorem Reps.strs {H : Hp} : ∀ {ps : List Str} {vs : List V}, Reps H (ps.map D.str) vs → vs = ps.map V.str
  | [], vs, h => by simpa only [List.map, Reps] using h
  | p :: ps, vs, h => by
    simp only [List.map, Reps, Rep] at h
    obtain ⟨v, r, rfl, rfl, h⟩ := h
    rw [Reps.strs h]
    rfl
theorem strsReps {H : Hp} : ∀ ps : List Str, Reps H (ps.map D.str) (ps.map V.str)
  | [] => by simp only [List.map, Reps]
  | p :: ps => by
    simp only [List.map, Reps]
    exact ⟨_, _, rfl, Rep.s p, strsReps ps⟩
/-- the i-th kind of a wood -/
theorem wood_at {H : Hp} {w : Wd} {xs : List V} {i : Nat} {x : V} (h : Reps H (w.map kindD) xs) (hx : xs[i]? = some x) : ∃ k a c ys, w[i]? = some k ∧ x = .ref a ∧ H a = some (.tup [.str k.1, .ref c]) ∧ H c = some (.tup ys) ∧ Reps H (k.2.map mkD) ys := by
  obtain ⟨d, hd, r⟩ := h.get hx
  rw [List.getElem?_map] at hd
  cases e : w[i]? with
  | none => rw [e] at hd; cases hd
  | some k =>
    rw [e] at hd
    cases hd
    obtain ⟨a, y, z, rfl, ha, ry, rz⟩ := Rep.twoI r
    cases ry.strI
    obtain ⟨c, ys, rfl, hc, rs⟩ := rz.tupI
    exact ⟨k, a, c, ys, rfl, rfl, ha, hc, rs⟩
/-- the i-th maker of a kind -/
theorem mk_at {H : Hp} {ms : List Mk} {xs : List V} {i : Nat} {x : V} (h : Reps H (ms.map mkD) xs) (hx : xs[i]? = some x) : ∃ m a c, ms[i]? = some m ∧ x = .ref a ∧ H a = some (.tup [.str m.1, .ref c]) ∧ H c = some (.tup (m.2.map V.str)) := by
  obtain ⟨d, hd, r⟩ := h.get hx
  rw [List.getElem?_map] at hd
  cases e : ms[i]? with
  | none => rw [e] at hd; cases hd
  | some m =>
    rw [e] at hd
    cases hd
    obtain ⟨a, y, z, rfl, ha, ry, rz⟩ := Rep.twoI r
    cases ry.strI
    obtain ⟨c, ys, rfl, hc, rs⟩ := rz.tupI
    cases rs.strs
    exact ⟨m, a, c, rfl, rfl, ha, hc⟩
/-! ### comprehensions that map -/
section
variable {J : It} {n : Nat} {G : Hp → Prop} {Y : Nat → Hp → V → Hp → Prop} {g : TG} {te : TE} {vs : List Nat} {σ : L2.St} {H1 : Hp} {D : Addr} {Qd : Hp → Prop}
/-- nothing but new objects; R of each item -/
theorem lc_mapE (w : Walk J n G Y) (R : Nat → Hp → V → Prop) (hn : n ≤ 16000000) (hD : H1 D = none) (hR : ∀ j H H' v, Tk H H' → R j H v → R j H' v) (hG : ∀ H, Ex H1 H → G H)
    (hs : ∀ i x H H' (P : VK) (N : Hp → Prop), i < n → Ex H1 H → Y i H x H' → (∀ y H4, Ex H H4 → R i H4 y → P y H4) → g x (wipe σ vs) H' fun σ2 H2 => wipe σ2 vs = wipe σ vs ∧ tYes σ2 H2 fun b H3 => if b = true then te σ2 H3 P else N H3)
    (hd : ∀ H' acc, Ex H1 H' → H' D = some (.lst acc) → acc.length = n → (∀ j v, acc[j]? = some v → R j H' v) → Qd H') :
    ∃ W : Nat → Nat → Hp → Prop, (∃ m, W 0 m (upd H1 D (.lst []))) ∧ ∀ i m H, W i m H →
      (J.stop i H ∧ Qd H) ∨ (J.go i H ∧ ∃ Nx : Hp → Prop, (∀ H', Nx H' → ∃ m', m' < m ∧ W (i + 1) m' H') ∧ ∀ x H', J.yld i H x H' → g x (wipe σ vs) H' fun σ2 H2 => wipe σ2 vs = wipe σ vs ∧ tYes σ2 H2 fun b H3 =>
        if b = true then te σ2 H3 fun y H4 => ∃ acc, H4 D = some (.lst acc) ∧ acc.length < sizeLine ∧ Nx (upd H4 D (.lst (acc ++ [y]))) else Nx H3) := by
  refine lc_it w (fun i H => Ex H1 H ∧ ∃ acc, H D = some (.lst acc) ∧ acc.length = i ∧ ∀ j v, acc[j]? = some v → R j H v) ⟨Ex.new hD, [], upd_same, rfl, fun j v z => by simp at z⟩ (fun i H _ p => hG H p.1) ?_ fun H p => ?_
  · rintro i x H H' hi ⟨e, acc, ha, hl, hr⟩ y
    refine hs i x H H' _ _ hi e y fun u H4 e4 r4 => ?_
    have a4 := e4 _ _ ha
    refine ⟨acc, a4, Nat.lt_of_le_of_lt (by omega : acc.length ≤ 16000000) (by decide), (e.trans e4).at_new hD, _, upd_same, by rw [List.length_append, hl]; rfl, fun j v hj => ?_⟩
    have b5 : Tk H4 (upd H4 D (.lst (acc ++ [u]))) := ((But.refl D H4).upd).tkl a4
    by_cases c : j < acc.length
    · rw [List.getElem?_append_left c] at hj
      exact hR _ _ _ _ b5 (hR _ _ _ _ e4.tk (hr j v hj))
    · rw [List.getElem?_append_right (by omega)] at hj
      have ej : j = i := by
        have := (List.getElem?_eq_some_iff.1 hj).1
        simp at this
        omega
      subst ej
      rw [hl, Nat.sub_self] at hj
      cases hj
      exact hR _ _ _ _ b5 r4
  · obtain ⟨e, acc, ha, hl, hr⟩ := p
    exact hd H acc e ha hl hr
end
end Bk
set_option Elab.async false
set_option linter.all false
set_option maxRecDepth 100000
set_option maxHeartbeats 4000000
/-! Bk11: a list's +=; equality by data; dicts of pairs; maps with draws. -/
namespace Bk
open PySem PySem.Spec PyProof.Rows L2
section
variable {M : Model} {A : Around} {E : Value → Shared → Prop} {s : Shared}
theorem iaddL {a b : Value} {Q : Value → Shared → Prop} (ha : s.TypeIs a "list") (hb : s.TypeIs b "list") (hc : wpAny M A (call (.builtin "list.__iadd__") [a, b]) Q E s) : wpAny M A (inplaceOp .Add a b) Q E s := by
  have z1 : seqSlot? (.type "list") (dunderI "add") = pure (some (.builtin "list.__iadd__")) := PySem.seqSlot_of F.slot_list_iadd.lookup (by decide +kernel)
  have z2 : isSeqSlot (some (.builtin "list.__iadd__")) = true := by decide +kernel
  have z0 : fillsInplaceSlot (.type "list") "add" (Operator.Add == .Add) = pure false := by
    unfold fillsInplaceSlot
    show (typeLookup (.type "list") (dunderI "add") >>= fun x => pure (x.isSome && !isSeqSlot x)) = pure false
    rw [F.slot_list_iadd.lookup, pure_bind, z2] <;> rfl
  unfold inplaceOp
  refine wpAny_holding (wpAny_bind (wpAny_typeOf ha (wpAny_bind (wpAny_of_eq z0 ?_))))
  refine (show wpAny M A (if false = true then _ else _) Q E s from ?_); rw [if_neg Bool.false_ne_true]
  refine wpAny_bind (wpAny_binaryOp1_none (nm := "add") ha hb noFill_list_add (wpAny_bind (wpAny_of_eq z1 ?_)))
  exact wpAny_bind (wpAny_rule hc)
end
section
variable {X : Cx}
/-- xs += ys, both lists: the left one grows -/
def uIadd : V → V → Hp → VK → Prop := fun x y H Q => match x, y with
  | .int i, .int j => Q (.int (i + j)) H
  | .ref l, .ref b => ∃ xs zs, H l = some (.lst xs) ∧ H b = some (.lst zs) ∧ xs.length + zs.length ≤ sizeLine ∧ Q (.ref l) (upd H l (.lst (xs ++ zs)))
  | _, _ => False
theorem ip_catL : PIp X .Add uIadd := by
  intro pins s σ H x y v u Q I rx ry h
  unfold uIadd at h
  split at h
  · exact ip_add pins s σ H _ _ v u Q I rx ry ⟨_, _, rfl, rfl, h⟩
  · obtain ⟨xs, zs, hH, hB, hz, q⟩ := h
    cases rx
    cases ry
    obtain ⟨z, its, n, r, hl, e⟩ := I.lstM hH
    obtain ⟨z2, its2, n2, r2, hl2, e2⟩ := I.lstM hB
    have s1 : its.toArray.size + its2.toArray.size ≤ sizeLine := by simp only [List.size_toArray]; omega
    have s2 : ¬ (!its.toArray.isEmpty && Builtin.List.listTooLong (its.toArray.size + its2.toArray.size)) = true := by simp only [notLongL s1, Bool.and_false]; decide
    refine iaddL ⟨_, e, rfl⟩ ⟨_, e2, rfl⟩ (call_meets F.slot_list_iadd ⟨_, e, rfl⟩ F.entry_list_iadd (F.args_list_iadd_2 _ _) (AutoSeq1.list___iadd___list_list_0 _ its.toArray n _ its2.toArray n2 s2 (by simp only [List.size_toArray]; omega) (by omega)) ⟨e, e2, ?_⟩)
    exact ⟨.ref _, _, I.lset (its' := its ++ its2) hH e (by simp) (r.append r2) (by simp only [List.length_append]; omega), rfl, q⟩
  · exact h.elim
end
/-! ### kinds and makers by name -/
/-- (name, number) -/
def kvsFrom : Nat → Wd → List (L2.Key × V)
  | _, [] => []
  | n, k :: r => (.inr k.1, .int (n : Nat)) :: kvsFrom (n + 1) r
theorem paired_of {H : Hp} : ∀ (w : Wd) (n : Nat) (acc : List V), acc.length = w.length → (∀ j v, acc[j]? = some v → ∃ p k, v = .ref p ∧ w[j]? = some k ∧ H p = some (.tup [.str k.1, .int ((n + j : Nat) : Int)])) →
    ∃ ps : List Addr, acc = ps.map V.ref ∧ ∀ K : PySem.W.Frag, Paired (fun p (kv : L2.Key × V) => SqT K H p [kV kv.1, kv.2]) ps (kvsFrom n w)
  | [], n, acc, hl, _ => ⟨[], List.eq_nil_of_length_eq_zero hl, fun _ => .nil⟩
  | k :: w, n, [], hl, _ => by cases hl
  | k :: w, n, v :: acc, hl, h => by
    obtain ⟨p, k', rfl, ek, hp⟩ := h 0 v rfl
    cases ek
    obtain ⟨ps, rfl, hps⟩ := paired_of (H := H) w (n + 1) acc (Nat.succ.inj hl) fun j u hu => by
      obtain ⟨q, k2, a1, a2, a3⟩ := h (j + 1) u hu
      refine ⟨q, k2, a1, a2, ?_⟩
      rw [a3, Nat.add_right_comm n 1 j, Nat.add_assoc n j 1]
    exact ⟨p :: ps, rfl, fun K => .cons (sqT hp) (hps K)⟩
def spKinds : Sp := fun vs H Q _ => ∃ (w : Wd) (v : V), vs = [v] ∧ Rep H (woodD w) v ∧ w.length ≤ 1000 ∧ ∀ d H', H d = none → Ex H H' → H' d = some (.dK (mergeK [] (kvsFrom 0 w))) → Q (.ref d) H'
/-- makers' names, in order -/
def mkNames (w : Wd) : List Str := (w.map fun k => k.2.map Prod.fst).flatten
def spMakersOf : Sp := fun vs H Q _ => ∃ (w : Wd) (v : V), vs = [v] ∧ Rep H (woodD w) v ∧ (mkNames w).length ≤ 1000 ∧ (∀ k ∈ w, k.2.length ≤ 1000) ∧ ∀ l H', H l = none → Ex H H' → H' l = some (.lst ((mkNames w).map V.str)) → Q (.ref l) H'
section
variable {K : PySem.W.Frag} {H : Hp} {Q : VK}
theorem g_augL {σ : L2.St} {i : Nat} {te : TE} {ti : V → V → Hp → VK → Prop} {D : Ends} {x : V} (hx : σ[i]? = some (some x)) (h : te σ H fun y H1 => ti x y H1 fun z H2 => D.nx (σ.set i (some z)) H2) : tAug i te ti D σ H := ⟨x, hx, h⟩
theorem g_iadd {l b : Addr} {xs zs : List V} (hl : H l = some (.lst xs)) (hb : H b = some (.lst zs)) (hz : xs.length + zs.length ≤ 1000000) (h : Q (.ref l) (upd H l (.lst (xs ++ zs)))) : uIadd (.ref l) (.ref b) H Q := ⟨xs, zs, hl, hb, Nat.le_trans hz (by decide), h⟩
end
/-! ### the makers' table -/
/-- the number of a kind by its name -/
def kno (w : Wd) (s : Str) : Int := match valV (mergeK [] (kvsFrom 0 w)) (.inr s) with
  | some (.int i) => i
  | _ => 0
theorem kvsFrom_int : ∀ (n : Nat) (w : Wd), ∀ p ∈ kvsFrom n w, ∃ i : Int, p.2 = .int i
  | _, [], p, h => by cases h
  | n, k :: w, p, h => by
    rcases List.mem_cons.1 h with rfl | h
    · exact ⟨_, rfl⟩
    · exact kvsFrom_int (n + 1) w p h
theorem merge_mem : ∀ (more kvs : List (L2.Key × V)) (k : L2.Key), (∀ p ∈ more, ∃ i : Int, p.2 = .int i) → (∀ v, valV kvs k = some v → ∃ i : Int, v = .int i) → ((∃ v, valV kvs k = some v) ∨ k ∈ more.map Prod.fst) → ∃ i : Int, valV (mergeK kvs more) k = some (.int i)
  | [], kvs, k, _, h2, h3 => by
    rcases h3 with ⟨v, hv⟩ | h3
    · obtain ⟨i, rfl⟩ := h2 v hv
      exact ⟨i, hv⟩
    · cases h3
  | p :: more, kvs, k, h1, h2, h3 => by
    show ∃ i : Int, valV (mergeK (putK kvs p.1 p.2) more) k = some (.int i)
    refine merge_mem more _ k (fun q hq => h1 q (List.mem_cons_of_mem _ hq)) (fun v hv => ?_) ?_
    · rw [valV_put] at hv
      split at hv
      · cases hv
        exact h1 p List.mem_cons_self
      · exact h2 v hv
    · by_cases c : k = p.1
      · exact .inl ⟨p.2, by rw [valV_put, if_pos c]⟩
      · rcases h3 with ⟨v, hv⟩ | h3
        · exact .inl ⟨v, by rw [valV_put, if_neg c]; exact hv⟩
        · rcases List.mem_cons.1 h3 with h3 | h3
          · exact absurd h3 c
          · exact .inr h3
theorem kvsFrom_keys : ∀ (n : Nat) (w : Wd), (kvsFrom n w).map Prod.fst = w.map fun k => Sum.inr k.1
  | _, [] => rfl
  | n, k :: w => by
    show _ :: _ = _ :: _
    rw [kvsFrom_keys (n + 1) w]
theorem kno_get {w : Wd} {s : Str} (h : s ∈ w.map Prod.fst) : valV (mergeK [] (kvsFrom 0 w)) (.inr s) = some (.int (kno w s)) := by
  obtain ⟨i, e⟩ := merge_mem (kvsFrom 0 w) [] (.inr s) (kvsFrom_int 0 w) (fun v z => by cases z) (.inr (by
    rw [kvsFrom_keys]
    obtain ⟨k, hk, rfl⟩ := List.mem_map.1 h
    exact List.mem_map.2 ⟨k, hk, rfl⟩))
  unfold kno
  rw [e]
def tabFrom : Nat → Wd → List (Nat × Mk)
  | _, [] => []
  | n, k :: r => k.2.map (fun m => (n, m)) ++ tabFrom (n + 1) r
theorem tab_split : ∀ (w : Wd) (n i : Nat) (k : Str × List Mk), w[i]? = some k → tabFrom n w = tabFrom n (w.take i) ++ k.2.map (fun m => (n + i, m)) ++ tabFrom (n + i + 1) (w.drop (i + 1))
  | [], n, i, k, h => by simp at h
  | a :: w, n, 0, k, h => by
    cases h
    simp [tabFrom]
  | a :: w, n, i + 1, k, h => by
    have z := tab_split w (n + 1) i k h
    have e : n + 1 + i = n + (i + 1) := by omega
    simp only [tabFrom, List.take_succ_cons, List.drop_succ_cons, z, e, List.append_assoc]
theorem tab_take : ∀ (w : Wd) (n i : Nat) (k : Str × List Mk), w[i]? = some k → tabFrom n (w.take (i + 1)) = tabFrom n (w.take i) ++ k.2.map (fun m => (n + i, m))
  | [], n, i, k, h => by simp at h
  | a :: w, n, 0, k, h => by
    cases h
    simp [tabFrom]
  | a :: w, n, i + 1, k, h => by
    have z := tab_take w (n + 1) i k h
    have e : n + 1 + i = n + (i + 1) := by omega
    simp only [tabFrom, List.take_succ_cons, z, e, List.append_assoc]
theorem tab_mem : ∀ (w : Wd) (n i : Nat) (k : Str × List Mk) (m : Mk), w[i]? = some k → m ∈ k.2 → (n + i, m) ∈ tabFrom n w := fun w n i k m h hm => by
  rw [tab_split w n i k h]
  exact List.mem_append_left _ (List.mem_append_right _ (List.mem_map.2 ⟨m, hm, rfl⟩))
structure TabPre (w : Wd) : Prop where
  nd : ((tabFrom 0 w).map fun e => e.2.1).Nodup
  parts : ∀ k ∈ w, ∀ m ∈ k.2, (∀ s ∈ m.2, s ∈ w.map Prod.fst) ∧ m.2.length ≤ 1000
  wide : w.length ≤ 1000
  many : (tabFrom 0 w).length ≤ 1000
def EntryAt (w : Wd) (H : Hp) (kvs : List (L2.Key × V)) (e : Nat × Mk) : Prop := ∃ p t, valV kvs (.inr e.2.1) = some (.ref p) ∧ H p = some (.tup [.int (e.1 : Nat), .ref t]) ∧ H t = some (.tup (e.2.2.map fun s => .int (kno w s)))
def TabOk (w : Wd) (H : Hp) (kvs : List (L2.Key × V)) (L : List (Nat × Mk)) : Prop := kvs.length ≤ L.length ∧ ∀ e ∈ L, EntryAt w H kvs e
theorem TabOk.tk {w : Wd} {H H' : Hp} {kvs : List (L2.Key × V)} {L : List (Nat × Mk)} (t : Tk H H') (h : TabOk w H kvs L) : TabOk w H' kvs L := ⟨h.1, fun e he => by
  obtain ⟨p, q, a, b, c⟩ := h.2 e he
  exact ⟨p, q, a, t _ _ b, t _ _ c⟩⟩
theorem putK_len (kvs : List (L2.Key × V)) (k : L2.Key) (v : V) : (putK kvs k v).length ≤ kvs.length + 1 := by
  unfold putK
  split
  · rw [List.length_map]; omega
  · rw [List.length_append, List.length_singleton]; omega
theorem TabOk.put {w : Wd} {H : Hp} {kvs : List (L2.Key × V)} {L : List (Nat × Mk)} {e : Nat × Mk} {p t : Addr} (h : TabOk w H kvs L) (hn : e.2.1 ∉ L.map fun e => e.2.1) (hp : H p = some (.tup [.int (e.1 : Nat), .ref t])) (ht : H t = some (.tup (e.2.2.map fun s => .int (kno w s)))) : TabOk w H (putK kvs (.inr e.2.1) (.ref p)) (L ++ [e]) := by
  refine ⟨?_, fun f hf => ?_⟩
  · rw [List.length_append, List.length_singleton]
    have := putK_len kvs (.inr e.2.1) (.ref p)
    have := h.1
    omega
  · rcases List.mem_append.1 hf with hf | hf
    · obtain ⟨p', t', a, b, c⟩ := h.2 f hf
      refine ⟨p', t', ?_, b, c⟩
      rw [valV_put, if_neg (fun z => hn ?_)]
      · exact a
      · exact List.mem_map.2 ⟨f, hf, Sum.inr.inj z⟩
    · rw [List.mem_singleton.1 hf]
      exact ⟨p, t, by rw [valV_put, if_pos rfl], hp, ht⟩
def spTable : Sp := fun vs H Q _ => ∃ (w : Wd) (v : V), vs = [v] ∧ Rep H (woodD w) v ∧ TabPre w ∧ ∀ d kvs H', Ex H H' → H' d = some (.dK kvs) → TabOk w H' kvs (tabFrom 0 w) → Q (.ref d) H'
def spKindOf : Sp := fun vs H Q _ => ∃ (w : Wd) (v : V) (e : Nat × Mk), vs = [v, .str e.2.1] ∧ Rep H (woodD w) v ∧ TabPre w ∧ e ∈ tabFrom 0 w ∧ ∀ H', Ex H H' → Q (.int (e.1 : Nat)) H'
def spPartsOf : Sp := fun vs H Q _ => ∃ (w : Wd) (v : V) (e : Nat × Mk), vs = [v, .str e.2.1] ∧ Rep H (woodD w) v ∧ TabPre w ∧ e ∈ tabFrom 0 w ∧ ∀ t H', Ex H H' → H' t = some (.tup (e.2.2.map fun s => .int (kno w s))) → Q (.ref t) H'
theorem g_dnew {σ : L2.St} {H : Hp} {Q : VK} (h : ∀ p, H p = none → Q (.ref p) (upd H p (.dK []))) : tDNewK σ H Q := h
/-! ### a wood that is let by -/
structure WoodOk (w : Wd) : Prop where
  kinds : 1 ≤ w.length ∧ w.length ≤ 4
  name : ∀ k ∈ w, isName k.1 = true
  knd : (w.map Prod.fst).Nodup
  mkr : ∀ k ∈ w, ∀ m ∈ k.2, isName m.1 = true ∧ m.2.length ≤ 2 ∧ ∀ s ∈ m.2, s ∈ w.map Prod.fst
  nd : ((tabFrom 0 w).map fun e => e.2.1).Nodup
  many : (tabFrom 0 w).length ≤ 12
theorem WoodOk.pre {w : Wd} (h : WoodOk w) : TabPre w := ⟨h.nd, fun k hk m hm => ⟨(h.mkr k hk m hm).2.2, Nat.le_trans (h.mkr k hk m hm).2.1 (by decide)⟩, Nat.le_trans h.kinds.2 (by decide), Nat.le_trans h.many (by decide)⟩
def KeysIn (kvs : List (L2.Key × V)) (L : List Str) : Prop := kvs.length ≤ L.length ∧ (∀ s, (valV kvs (.inr s)).isSome = true ↔ s ∈ L)
theorem KeysIn.put {kvs : List (L2.Key × V)} {L : List Str} {s : Str} {v : V} (h : KeysIn kvs L) : KeysIn (putK kvs (.inr s) v) (L ++ [s]) := by
  refine ⟨?_, fun t => ?_⟩
  · have := putK_len kvs (.inr s) v
    have := h.1
    rw [List.length_append, List.length_singleton]
    omega
  · rw [valV_put, List.mem_append, List.mem_singleton]
    by_cases c : t = s
    · subst c
      rw [if_pos rfl]
      exact ⟨fun _ => .inr rfl, fun _ => rfl⟩
    · rw [if_neg (fun z => c (Sum.inr.inj z)), h.2 t]
      exact ⟨fun z => .inl z, fun z => z.resolve_right c⟩
theorem KeysIn.none {kvs : List (L2.Key × V)} {L : List Str} {s : Str} (h : KeysIn kvs L) (hn : s ∉ L) : valV kvs (.inr s) = none := by
  cases e : valV kvs (.inr s) with
  | none => rfl
  | some v => exact absurd ((h.2 s).1 (by rw [e]; rfl)) hn
theorem nodup_at {α : Type} {l : List α} {i : Nat} {x : α} (h : l.Nodup) (hx : l[i]? = some x) : x ∉ l.take i := by
  intro z
  obtain ⟨h1, h2⟩ := List.getElem?_eq_some_iff.1 hx
  have e : l = l.take i ++ x :: l.drop (i + 1) := by rw [← h2, List.getElem_cons_drop, List.take_append_drop]
  rw [e] at h
  exact (List.nodup_append.1 h).2.2 _ z _ List.mem_cons_self rfl
/-! ### maps with draws -/
theorem Box.tk {H H' : Hp} {p : Addr} (b : Box H p) (e : But p H H') : Tk H H' := by
  obtain ⟨_, _, _, h⟩ := b
  exact e.tkl h
theorem Box.ne {H : Hp} {p q : Addr} (b : Box H p) (h : H q = none) : q ≠ p := fun z => by
  obtain ⟨_, _, _, hp⟩ := b
  rw [← z, h] at hp
  cases hp
theorem Box.at_upd {H : Hp} {p q : Addr} {o : HO} (b : Box H p) (h : q ≠ p) : Box (upd H q o) p := by
  obtain ⟨x, y, z, hp⟩ := b
  exact ⟨x, y, z, by rw [upd_ne (Ne.symm h)]; exact hp⟩
theorem But.at_new {p q : Addr} {H H' : Hp} {o : HO} (e : But p H H') (h : H q = none) : But p H (L2.upd H' q o) := fun a u na hu => by
  rw [upd_ne (ne_of_none hu h)]
  exact e a u na hu
section
variable {J : It} {n : Nat} {G : Hp → Prop} {Y : Nat → Hp → V → Hp → Prop} {g : TG} {te : TE} {vs : List Nat} {σ : L2.St} {H1 : Hp} {D : Addr} {Qd : Hp → Prop}
theorem lc_mapB (w : Walk J n G Y) (p : Addr) (R : Nat → Hp → V → Prop) (hn : n ≤ 1000000) (hD : H1 D = none) (hB : Box H1 p) (hR : ∀ j H H' v, Tk H H' → R j H v → R j H' v) (hG : ∀ H, But p H1 H → G H)
    (hs : ∀ i x H H' (P : VK) (N : Hp → Prop), i < n → But p H1 H → Box H p → Y i H x H' → (∀ y H4, But p H H4 → Box H4 p → R i H4 y → P y H4) → g x (wipe σ vs) H' fun σ2 H2 => wipe σ2 vs = wipe σ vs ∧ tYes σ2 H2 fun b H3 => if b = true then te σ2 H3 P else N H3)
    (hd : ∀ H' acc, But p H1 H' → Box H' p → H' D = some (.lst acc) → acc.length = n → (∀ j v, acc[j]? = some v → R j H' v) → Qd H') :
    ∃ W : Nat → Nat → Hp → Prop, (∃ m, W 0 m (upd H1 D (.lst []))) ∧ ∀ i m H, W i m H →
      (J.stop i H ∧ Qd H) ∨ (J.go i H ∧ ∃ Nx : Hp → Prop, (∀ H', Nx H' → ∃ m', m' < m ∧ W (i + 1) m' H') ∧ ∀ x H', J.yld i H x H' → g x (wipe σ vs) H' fun σ2 H2 => wipe σ2 vs = wipe σ vs ∧ tYes σ2 H2 fun b H3 =>
        if b = true then te σ2 H3 fun y H4 => ∃ acc, H4 D = some (.lst acc) ∧ acc.length < sizeLine ∧ Nx (upd H4 D (.lst (acc ++ [y]))) else Nx H3) := by
  have nD := hB.ne hD
  refine lc_it w (fun i H => But p H1 H ∧ Box H p ∧ ∃ acc, H D = some (.lst acc) ∧ acc.length = i ∧ ∀ j v, acc[j]? = some v → R j H v) ⟨(Ex.new hD).but p, hB.at_upd nD, [], upd_same, rfl, fun j v z => by simp at z⟩ (fun i H _ h => hG H h.1) ?_ fun H h => ?_
  · rintro i x H H' hi ⟨e, b, acc, ha, hl, hr⟩ y
    refine hs i x H H' _ _ hi e b y fun u H4 e4 b4 r4 => ?_
    have a4 := e4 _ _ nD ha
    have t4 := b.tk e4
    refine ⟨acc, a4, Nat.lt_of_le_of_lt (by omega : acc.length ≤ 1000000) (by decide), (e.trans e4).at_new hD, b4.at_upd nD, _, upd_same, by rw [List.length_append, hl]; rfl, fun j v hj => ?_⟩
    have b5 : Tk H4 (upd H4 D (.lst (acc ++ [u]))) := ((But.refl D H4).upd).tkl a4
    by_cases c : j < acc.length
    · rw [List.getElem?_append_left c] at hj
      exact hR _ _ _ _ b5 (hR _ _ _ _ t4 (hr j v hj))
    · rw [List.getElem?_append_right (by omega)] at hj
      have ej : j = i := by
        have := (List.getElem?_eq_some_iff.1 hj).1
        simp at this
        omega
      subst ej
      rw [hl, Nat.sub_self] at hj
      cases hj
      exact hR _ _ _ _ b5 r4
  · obtain ⟨e, b, acc, ha, hl, hr⟩ := h
    exact hd H acc e b ha hl hr
end
/-- a list of values told one by one -/
theorem acc_strs {n : Nat} {acc : List V} {P : Nat → Str → Prop} (hl : acc.length = n) (h : ∀ j v, acc[j]? = some v → ∃ s, v = .str s ∧ P j s) : ∃ ss : List Str, acc = ss.map V.str ∧ ss.length = n ∧ ∀ j s, ss[j]? = some s → P j s := by
  refine ⟨acc.map fun v => match v with | .str s => s | _ => ⟨#[]⟩, ?_, by rw [List.length_map, hl], fun j s hs => ?_⟩
  · refine List.ext_getElem? fun j => ?_
    rw [List.map_map, List.getElem?_map]
    cases e : acc[j]? with
    | none => rfl
    | some v =>
      obtain ⟨s, rfl, _⟩ := h j v e
      rfl
  · rw [List.getElem?_map] at hs
    cases e : acc[j]? with
    | none => rw [e] at hs; cases hs
    | some v =>
      obtain ⟨s', rfl, hp⟩ := h j v e
      rw [e] at hs
      cases hs
      exact hp
/-! ### the comparison where no list stands -/
inductive PrH (H0 H1 : Hp) : Nat → List V → Prop where
  | nil : PrH H0 H1 0 []
  | snoc {n : Nat} {ts : List V} {d : D} {t : V} (h : PrH H0 H1 n ts) (r : Pr H0 H1 d t) (k : d.hard = true) : PrH H0 H1 (n + d.size) (ts ++ [t])
theorem PrH.len {H0 H1 : Hp} {n : Nat} {ts : List V} (h : PrH H0 H1 n ts) : ts.length ≤ n := by
  induction h with
  | nil => exact Nat.le_refl _
  | @snoc n ts d t h r k ih =>
    have := d.size_pos
    rw [List.length_append, List.length_singleton]
    omega
theorem PrH.tk {H0 H1 H2 : Hp} {n : Nat} {ts : List V} (e : Tk H1 H2) (h : PrH H0 H1 n ts) : PrH H0 H2 n ts := by
  induction h with
  | nil => exact .nil
  | snoc h r k ih =>
    obtain ⟨a, v, w, rfl, ha, rv, rw'⟩ := r
    exact .snoc ih ⟨a, v, w, rfl, e _ _ ha, rv, rw'⟩ k
theorem PrH.ext {H0 H1 : Hp} : ∀ {ds : List D} {xs ys : List V} {tl : List Addr} {n : Nat} {ts : List V}, Reps H0 ds xs → Reps H0 ds ys → D.hards ds = true → Prz H1 tl xs ys → PrH H0 H1 n ts → PrH H0 H1 (n + D.sizes ds) (ts ++ tl.map V.ref)
  | [], xs, ys, tl, n, ts, hx, hy, _, hp, h => by
    simp only [Reps] at hx hy
    subst hx
    have e : tl = [] := List.eq_nil_of_length_eq_zero hp.1
    subst e
    simpa [D.sizes] using h
  | d :: ds, xs, ys, tl, n, ts, hx, hy, hh, hp, h => by
    simp only [Reps] at hx hy
    simp only [D.hards, Bool.and_eq_true] at hh
    obtain ⟨x, xr, rfl, rx, hx⟩ := hx
    obtain ⟨y, yr, rfl, ry, hy⟩ := hy
    cases tl with
    | nil => cases hp.1
    | cons t tl =>
      obtain ⟨x', y', ex, ey, ht⟩ := hp.2 0 t rfl
      cases ex
      cases ey
      have hp' : Prz H1 tl xr yr := ⟨Nat.succ.inj hp.1, fun j u hu => by
        obtain ⟨a, b, q⟩ := hp.2 (j + 1) u hu
        exact ⟨a, b, q⟩⟩
      have z := PrH.ext hx hy hh.2 hp' (h.snoc ⟨t, x, y, rfl, ht, rx, ry⟩ hh.1)
      have e1 : n + D.sizes (d :: ds) = n + d.size + D.sizes ds := by simp only [D.sizes]; omega
      have e2 : ts ++ (t :: tl).map V.ref = ts ++ [V.ref t] ++ tl.map V.ref := by simp
      rw [e1, e2]
      exact z
end Bk
set_option Elab.async false
set_option linter.all false
set_option maxRecDepth 100000
set_option maxHeartbeats 4000000
/-! Bk12: texts joined, cut; lists of texts compared. -/
namespace Bk
open PySem PySem.Spec PyProof.Rows L2
theorem fold_join : ∀ (rest : List Str) (acc : Array Nat), (rest.foldl (fun acc p => acc ++ (Str.ofString "").cps ++ p.cps) acc).toList = acc.toList ++ (rest.map fun s => s.cps.toList).flatten
  | [], acc => by simp
  | r :: rest, acc => by
    rw [List.foldl_cons, fold_join rest, List.map_cons, List.flatten_cons]
    have e : (Str.ofString "").cps.toList = [] := by decide
    rw [Array.toList_append, Array.toList_append, e, List.append_nil, List.append_assoc]
theorem joinE (ys : List Str) : (Txt.join "" ys).cps.toList = (ys.map fun s => s.cps.toList).flatten := by
  cases ys with
  | nil => rfl
  | cons y ys =>
    show ((ys.foldl (fun acc p => acc ++ (Str.ofString "").cps ++ p.cps) y.cps).toList) = _
    rw [fold_join, List.map_cons, List.flatten_cons]
def one (c : Nat) : Str := ⟨#[c]⟩
theorem joinOnes (cs : List Nat) : (Txt.join "" (cs.map one)).cps.toList = cs := by
  rw [joinE, List.map_map]
  induction cs with
  | nil => rfl
  | cons c cs ih =>
    rw [List.map_cons, List.flatten_cons, ih]
    rfl
theorem onesLen (cs : List Nat) : ((cs.map one).map (·.length)).sum = cs.length := by
  induction cs with
  | nil => rfl
  | cons c cs ih =>
    rw [List.map_cons, List.map_cons, List.sum_cons, ih]
    show 1 + cs.length = cs.length + 1
    omega
theorem str_len (s : Str) : s.length = s.cps.toList.length := by
  show s.cps.size = _
  simp
/-- a list of single signs -/
theorem acc_ones {n : Nat} {acc : List V} {P : Nat → Prop} (hl : acc.length = n) (h : ∀ (j : Nat) (v : V), acc[j]? = some v → ∃ c, v = V.str ⟨#[c]⟩ ∧ P c) : ∃ cs : List Nat, acc = (cs.map one).map V.str ∧ cs.length = n ∧ ∀ c ∈ cs, P c := by
  induction acc generalizing n with
  | nil => exact ⟨[], rfl, hl, fun c z => nomatch z⟩
  | cons v acc ih =>
    obtain ⟨c, ev, hc⟩ := h 0 v rfl
    subst ev
    obtain ⟨cs, rfl, h2, h3⟩ := ih (n := acc.length) rfl fun j v hj => h (j + 1) v hj
    refine ⟨c :: cs, rfl, ?_, fun x hx => ?_⟩
    · rw [List.length_cons] at hl ⊢
      omega
    · rcases List.mem_cons.1 hx with rfl | hx
      · exact hc
      · exact h3 x hx
section
variable {K : PySem.W.Frag} {H : Hp} {Q : VK} {σ : L2.St}
theorem g_m1 {r : V → List V → Hp → VK → Prop} {to te : TE} (h : to σ H fun x H1 => (∃ a, x = .str a) ∧ te σ H1 fun y H2 => r x [y] H2 Q) : tM1 r to te σ H Q := h
theorem g_tyS {P : Prop} {a : Str} (h : P) : (∃ b, V.str a = .str b) ∧ P := ⟨⟨a, rfl⟩, h⟩
theorem joinB {cs : List Nat} (hl : cs.length ≤ 1000000) : ((cs.map one).map (·.length)).sum + (cs.map one).length * (Str.ofString "").length ≤ 16777216 := by
  rw [onesLen, show (Str.ofString "").length = 0 from rfl, Nat.mul_zero]
  omega
theorem g_inSn {c z : Str} (e : c.cps.size = 1) (h : Q (.bl (!decide (c.cps.toList.headD 0 ∈ z.cps.toList))) H) : uIn K true (.str c) (.str z) H Q := ⟨e, h⟩
/-! lists of texts compared -/
end
/-- any text of the laws -/
def TextOk (s : Str) : Prop := s.length ≤ 1000 ∧ ∀ c ∈ s.cps.toList, c < 0x110000
instance instTextOk (s : Str) : Decidable (TextOk s) := inferInstanceAs (Decidable (s.length ≤ 1000 ∧ ∀ c ∈ s.cps.toList, c < 0x110000))
theorem atI_ex {α : Type} {l : List α} {j : Int} (h0 : 0 ≤ j) (h1 : j < l.length) : ∃ x, atI l j = some x ∧ l[j.toNat]? = some x := by
  have hj : j.toNat < l.length := by omega
  refine ⟨l[j.toNat], ?_, List.getElem?_eq_getElem hj⟩
  have z := atI_nat (List.getElem?_eq_getElem hj)
  rwa [Int.toNat_of_nonneg h0] at z
end Bk
set_option Elab.async false
set_option linter.all false
set_option maxRecDepth 100000
set_option maxHeartbeats 4000000
/-! Bk13: names drawn. -/
namespace Bk
open PySem PySem.Spec PyProof.Rows L2
theorem letters_list : lettersS.cps.toList = (List.range 26).map (97 + ·) := by decide +kernel
theorem letters_len : lettersS.length = 26 := by decide +kernel
theorem letters_at {i : Nat} (h : i < 26) : lettersS.cps.toList[i]? = some (97 + i) := by
  rw [letters_list, List.getElem?_map, List.getElem?_range h]
  rfl
theorem letters_mem {c : Nat} : c ∈ lettersS.cps.toList ↔ ∃ i, i < 26 ∧ c = 97 + i := by
  rw [letters_list, List.mem_map]
  constructor
  · rintro ⟨i, hi, rfl⟩
    exact ⟨i, List.mem_range.1 hi, rfl⟩
  · rintro ⟨i, hi, rfl⟩
    exact ⟨i, List.mem_range.2 hi, rfl⟩
/-- small letters alone -/
def Low (s : Str) : Prop := ∀ c ∈ s.cps.toList, c ∈ lettersS.cps.toList
theorem isName_of {s : Str} (hl : Low s) (h1 : 1 ≤ s.length) (h6 : s.length ≤ 6) (hk : s ≠ "kind") : isName s = true := by
  unfold isName
  rw [decide_eq_false hk, decide_eq_true ⟨h1, h6⟩]
  simp only [Bool.not_false, Bool.true_and, List.all_eq_true, decide_eq_true_eq]
  exact hl
theorem isName_low {s : Str} (h : isName s = true) : Low s := by
  unfold isName at h
  simp only [Bool.and_eq_true, List.all_eq_true, decide_eq_true_eq] at h
  exact h.2
theorem low_ok {s : Str} (h : Low s) : ∀ c ∈ s.cps.toList, c < 0x110000 := fun c hc => by
  obtain ⟨i, hi, rfl⟩ := letters_mem.1 (h c hc)
  omega
theorem app_list (s t : Str) : (s ++ t).cps.toList = s.cps.toList ++ t.cps.toList := by
  show (s.cps ++ t.cps).toList = _
  simp
theorem app_len (s t : Str) : (s ++ t).length = s.length + t.length := by
  rw [str_len, str_len, str_len, app_list, List.length_append]
theorem Low.app {s t : Str} (h : Low s) (g : Low t) : Low (s ++ t) := fun c hc => by
  rw [app_list] at hc
  rcases List.mem_append.1 hc with hc | hc
  · exact h c hc
  · exact g c hc
theorem cut_list (z : Str) (lo hi : Option Int) : (cutS z lo hi).cps.toList = (z.cps.toList.drop (HT.sIx z.length 0 lo)).take (HT.sIx z.length z.length hi - HT.sIx z.length 0 lo) := by
  unfold cutS
  rfl
theorem cut_to {z : Str} {a : Nat} (h : a ≤ z.length) : (cutS z none (some (a : Int))).cps.toList = z.cps.toList.take a := by
  rw [cut_list, HT.sIx_none, HT.sIx_nat, Nat.min_eq_left h, List.drop_zero, Nat.sub_zero]
theorem cut_from {z : Str} {a : Nat} (h : a ≤ z.length) : (cutS z (some (a : Int)) none).cps.toList = z.cps.toList.drop a := by
  rw [cut_list, HT.sIx_none, HT.sIx_nat, Nat.min_eq_left h, str_len, ← List.length_drop, List.take_length]
theorem cut_to_len (z : Str) (a : Nat) : (cutS z none (some (a : Int))).length = min a z.length := by
  rw [str_len, cut_list, HT.sIx_none, HT.sIx_nat, List.drop_zero, Nat.sub_zero, List.length_take, ← str_len]
  omega
theorem str_ext {s t : Str} (h : s.cps.toList = t.cps.toList) : s = t := by
  obtain ⟨a⟩ := s
  obtain ⟨b⟩ := t
  congr 1
  exact Array.toList_inj.1 h
section
variable {K : PySem.W.Frag} {H : Hp} {Q : VK} {σ : L2.St}
theorem inV_strs (n : Str) : ∀ ss : List Str, inV (.str n) (ss.map V.str) = decide (n ∈ ss)
  | [] => rfl
  | s :: ss => by
    show (eqV (.str s) (.str n) || inV (.str n) (ss.map V.str)) = _
    rw [inV_strs n ss]
    show ((s == n) || decide (n ∈ ss)) = decide (n ∈ s :: ss)
    by_cases c : s = n
    · subst c
      simp
    · have e : (s == n) = false := by simpa using c
      rw [e, Bool.false_or]
      congr 1
      rw [List.mem_cons]
      exact propext ⟨fun z => .inr z, fun z => z.resolve_left fun q => c q.symm⟩
theorem flat_strs : ∀ ss : List Str, (ss.map V.str).all flatV = true
  | [] => rfl
  | s :: ss => by
    rw [List.map_cons, List.all_cons, flat_strs ss]
    rfl
theorem g_inL {l : Addr} {n : Str} {ss : List Str} (hl : H l = some (.lst (ss.map V.str))) (h : Q (.bl (decide (n ∈ ss))) H) : uIn K false (.str n) (.ref l) H Q := ⟨_, .inl (sqL hl), rfl, flat_strs ss, by rw [inV_strs]; exact h⟩
theorem g_addS {a b : Str} (hl : a.length + b.length ≤ 1000000) (h : Q (.str (a ++ b)) H) : uAdd K (.str a) (.str b) H Q := ⟨Nat.le_trans hl (by decide), h⟩
theorem g_bmS {T : String} {r : L2.St → V → List V → Hp → VK → Prop} {to : TE} {t : TA} (h : to σ H fun x H1 => tyV K T x H1 ∧ t σ H1 fun xs H2 => r σ x xs H2 Q) : tBMS K T r to t σ H Q := h
theorem g_tyStr {z : Str} {P : Prop} (h : P) : tyV K "str" (.str z) H ∧ P := ⟨rfl, h⟩
end
end Bk
set_option Elab.async false
set_option linter.all false
set_option maxRecDepth 100000
set_option maxHeartbeats 4000000
/-! Bk14: the laws' makers. -/
namespace Bk
open PySem PySem.Spec PyProof.Rows L2
def DueAt (w : Wd) (H : Hp) (e : Nat × Mk) (v : V) : Prop := ∃ p t, v = .ref p ∧ H p = some (.tup [.str e.2.1, .int (e.1 : Nat), .ref t]) ∧ H t = some (.tup (e.2.2.map fun s => .int (kno w s)))
theorem DueAt.tk {w : Wd} {H H' : Hp} {e : Nat × Mk} {v : V} (t : Tk H H') (h : DueAt w H e v) : DueAt w H' e v := by
  obtain ⟨p, q, a, b, c⟩ := h
  exact ⟨p, q, a, t _ _ b, t _ _ c⟩
/-- a list of such -/
def Dues (w : Wd) (H : Hp) (L : List (Nat × Mk)) (vs : List V) : Prop := vs.length = L.length ∧ ∀ (j : Nat) (v : V), vs[j]? = some v → ∃ e, L[j]? = some e ∧ DueAt w H e v
theorem Dues.tk {w : Wd} {H H' : Hp} {L : List (Nat × Mk)} {vs : List V} (t : Tk H H') (h : Dues w H L vs) : Dues w H' L vs := ⟨h.1, fun j v hj => by
  obtain ⟨e, a, b⟩ := h.2 j v hj
  exact ⟨e, a, b.tk t⟩⟩
theorem Dues.app {w : Wd} {H : Hp} {L M : List (Nat × Mk)} {vs us : List V} (h : Dues w H L vs) (g : Dues w H M us) : Dues w H (L ++ M) (vs ++ us) := by
  refine ⟨by rw [List.length_append, List.length_append, h.1, g.1], fun j v hj => ?_⟩
  by_cases c : j < vs.length
  · rw [List.getElem?_append_left c] at hj
    obtain ⟨e, a, b⟩ := h.2 j v hj
    exact ⟨e, by rw [List.getElem?_append_left (by rw [← h.1]; exact c)]; exact a, b⟩
  · rw [List.getElem?_append_right (by omega)] at hj
    obtain ⟨e, a, b⟩ := g.2 _ v hj
    exact ⟨e, by rw [List.getElem?_append_right (by rw [← h.1]; omega), ← h.1]; exact a, b⟩
def spMakers : Sp := fun vs H Q _ => ∃ (w : Wd) (v : V), vs = [v] ∧ Rep H (woodD w) v ∧ WoodOk w ∧ ∀ l H' us, Ex H H' → H' l = some (.lst us) → Dues w H' (tabFrom 0 w) us → Q (.ref l) H'
/-- the first place of a kind's name -/
theorem kno_at : ∀ (w : Wd) (n i : Nat) (k : Str × List Mk) (kvs : List (L2.Key × V)), (w.map Prod.fst).Nodup → w[i]? = some k → valV (mergeK kvs (kvsFrom n w)) (.inr k.1) = some (.int ((n + i : Nat) : Int))
  | [], n, i, k, kvs, _, h => by simp at h
  | a :: w, n, 0, k, kvs, hn, h => by
    cases h
    show valV (mergeK (putK kvs (.inr a.1) (.int (n : Nat))) (kvsFrom (n + 1) w)) (.inr a.1) = _
    have h1 := (List.nodup_cons.1 hn).1
    have z : ∀ (w : Wd) (n : Nat) (kvs : List (L2.Key × V)) (s : Str), s ∉ w.map Prod.fst → valV (mergeK kvs (kvsFrom n w)) (.inr s) = valV kvs (.inr s) := by
      intro w
      induction w with
      | nil => intro n kvs s _; rfl
      | cons b w ih =>
        intro n kvs s hs
        show valV (mergeK (putK kvs (.inr b.1) (.int (n : Nat))) (kvsFrom (n + 1) w)) (.inr s) = _
        rw [List.map_cons, List.mem_cons, not_or] at hs
        rw [ih (n + 1) _ s hs.2, valV_put, if_neg fun e => hs.1 (Sum.inr.inj e)]
    rw [z w (n + 1) _ a.1 h1, valV_put, if_pos rfl]
    rfl
  | a :: w, n, i + 1, k, kvs, hn, h => by
    show valV (mergeK (putK kvs (.inr a.1) (.int (n : Nat))) (kvsFrom (n + 1) w)) (.inr k.1) = _
    rw [kno_at w (n + 1) i k _ (List.nodup_cons.1 hn).2 h]
    congr 2
    omega
theorem kno_idx {w : Wd} {i : Nat} {k : Str × List Mk} (hn : (w.map Prod.fst).Nodup) (h : w[i]? = some k) : kno w k.1 = (i : Nat) := by
  unfold kno
  rw [kno_at w 0 i k [] hn h]
  simp
/-- list.index of a kind's name -/
theorem g_lidx {K : PySem.W.Frag} {H : Hp} {Q : VK} {w : Wd} {l : Addr} {s : Str} (hn : (w.map Prod.fst).Nodup) (hl : H l = some (.lst ((w.map Prod.fst).map V.str))) (hs : s ∈ w.map Prod.fst) (h : Q (.int (kno w s)) H) : rIndex K (.ref l) [.str s] H Q := by
  obtain ⟨i, hi⟩ := List.mem_iff_getElem?.1 hs
  rw [List.getElem?_map] at hi
  cases ek : w[i]? with
  | none => rw [ek] at hi; cases hi
  | some k =>
    rw [ek] at hi
    cases hi
    rw [kno_idx hn ek] at h
    have ei : (w.map Prod.fst)[i]? = some k.1 := by rw [List.getElem?_map, ek]; rfl
    refine ⟨l, _, _, i, .str k.1, rfl, rfl, sqL hl, rfl, flat_strs _, by rw [List.getElem?_map, ei]; rfl, by show (k.1 == k.1) = true; simp, fun m z hm hz => ?_, h⟩
    rw [List.getElem?_map] at hz
    cases em : (w.map Prod.fst)[m]? with
    | none => rw [em] at hz; cases hz
    | some t =>
      rw [em] at hz
      cases hz
      show (t == k.1) = false
      have ne : t ≠ k.1 := by
        intro e
        subst e
        have := nodup_at hn ei
        exact this (List.mem_iff_getElem?.2 ⟨m, by rw [List.getElem?_take, if_pos hm, em]⟩)
      simpa using ne
theorem tab_names : ∀ (w : Wd) (n : Nat), (tabFrom n w).map (fun e => e.2.1) = mkNames w
  | [], n => rfl
  | k :: w, n => by
    show List.map _ (k.2.map (fun m => (n, m)) ++ tabFrom (n + 1) w) = (List.map _ (k :: w)).flatten
    rw [List.map_append, tab_names w (n + 1), List.map_map, List.map_cons, List.flatten_cons]
    rfl
theorem intsReps {H : Hp} : ∀ is : List Int, Reps H (is.map D.int) (is.map V.int)
  | [] => by simp only [List.map, Reps]
  | i :: is => by
    simp only [List.map, Reps]
    exact ⟨_, _, rfl, Rep.i i, intsReps is⟩
theorem ints_hard : ∀ is : List Int, D.hards (is.map D.int) = true
  | [] => rfl
  | i :: is => by
    show (D.hard (.int i) && D.hards (is.map D.int)) = true
    rw [ints_hard is]
    rfl
theorem Rep.ints {H : Hp} {t : Addr} {is : List Int} (h : H t = some (.tup (is.map V.int))) : Rep H (.tup (is.map D.int)) (.ref t) := by
  simp only [Rep]
  exact ⟨t, _, rfl, h, intsReps is⟩
theorem map_kno (w : Wd) (l : List Str) : (l.map fun s => V.int (kno w s)) = (l.map fun s => kno w s).map V.int := by rw [List.map_map]; rfl
section
variable {K : PySem.W.Frag} {H : Hp} {Q : VK} {σ : L2.St}
theorem g_tup3 {p : Addr} {x y z : V} {i j k : Nat} {P : L2.St → Hp → Prop} (hp : H p = some (.tup [x, y, z])) (h : P (((σ.set i (some x)).set j (some y)).set k (some z)) H) : gTup K 3 (gCons (gName i) (gCons (gName j) (gCons (gName k) gNil))) (.ref p) σ H P :=
  ⟨p, _, rfl, sqT hp, rfl, x, _, rfl, y, _, rfl, z, _, rfl, rfl, h⟩
end
theorem WoodOk.low {w : Wd} (h : WoodOk w) : ∀ s ∈ mkNames w, isName s = true := fun s hs => by
  unfold mkNames at hs
  obtain ⟨l, hl, hs⟩ := List.mem_flatten.1 hs
  obtain ⟨k, hk, rfl⟩ := List.mem_map.1 hl
  obtain ⟨m, hm, rfl⟩ := List.mem_map.1 hs
  exact (h.mkr k hk m hm).1
theorem WoodOk.names {w : Wd} (h : WoodOk w) : (mkNames w).length ≤ 12 := by rw [← tab_names w 0, List.length_map]; exact h.many
theorem WoodOk.row {w : Wd} (h : WoodOk w) : ∀ k ∈ w, k.2.length ≤ 1000 := fun k hk => by
  obtain ⟨i, hi⟩ := List.mem_iff_getElem?.1 hk
  have := h.many
  rw [tab_split w 0 i k hi, List.length_append, List.length_append, List.length_map] at this
  omega
theorem strs_hard : ∀ ss : List Str, D.hards (ss.map D.str) = true
  | [] => rfl
  | s :: ss => by
    show (D.hard (.str s) && D.hards (ss.map D.str)) = true
    rw [strs_hard ss]
    rfl
theorem mks_hard : ∀ ms : List Mk, D.hards (ms.map mkD) = true
  | [] => rfl
  | m :: ms => by
    show (D.hard (mkD m) && D.hards (ms.map mkD)) = true
    rw [mks_hard ms, Bool.and_true]
    show (D.hard (.str m.1) && (D.hards (m.2.map D.str) && true)) = true
    rw [strs_hard]
    rfl
theorem kinds_hard : ∀ w : Wd, D.hards (w.map kindD) = true
  | [] => rfl
  | k :: w => by
    show (D.hard (kindD k) && D.hards (w.map kindD)) = true
    rw [kinds_hard w, Bool.and_true]
    show (D.hard (.str k.1) && (D.hards (k.2.map mkD) && true)) = true
    rw [mks_hard]
    rfl
theorem wood_hard (w : Wd) : (woodD w).hard = true := by
  show D.hards (w.map kindD) = true
  exact kinds_hard w
/-! ### the rows of a wood that is drawn -/
structure Rows (H : Hp) (ras : List Addr) (R : List (List Mk)) : Prop where
  len : ras.length = R.length
  nd : ras.Nodup
  at_ : ∀ (q : Nat) (a : Addr) (r : List Mk), ras[q]? = some a → R[q]? = some r → ∃ us, H a = some (.lst us) ∧ Reps H (r.map mkD) us
theorem Rows.get {H : Hp} {ras : List Addr} {R : List (List Mk)} (h : Rows H ras R) {q : Nat} (hq : q < R.length) : ∃ a r us, ras[q]? = some a ∧ R[q]? = some r ∧ H a = some (.lst us) ∧ Reps H (r.map mkD) us := by
  have hq2 : q < ras.length := by rw [h.len]; exact hq
  obtain ⟨us, a, b⟩ := h.at_ q _ _ (List.getElem?_eq_getElem hq2) (List.getElem?_eq_getElem hq)
  exact ⟨_, _, us, List.getElem?_eq_getElem hq2, List.getElem?_eq_getElem hq, a, b⟩
/-- what keeps the lists at ras and all tuples -/
theorem Rows.keep {H H' : Hp} {ras : List Addr} {R : List (List Mk)} (h : Rows H ras R) (t : Tk H H') (k : ∀ a ∈ ras, ∀ us, H a = some (.lst us) → H' a = some (.lst us)) : Rows H' ras R := ⟨h.len, h.nd, fun q a r ha hr => by
  obtain ⟨us, hu, rs⟩ := h.at_ q a r ha hr
  exact ⟨us, k a (List.mem_of_getElem? ha) us hu, rs.tk t (mks_hard r)⟩⟩
theorem Rows.put {H : Hp} {ras : List Addr} {R : List (List Mk)} {q : Nat} {a : Addr} {r : List Mk} {us : List V} {m : Mk} {v : V} (h : Rows H ras R) (ha : ras[q]? = some a) (hr : R[q]? = some r) (hu : H a = some (.lst us)) (rs : Reps H (r.map mkD) us) (rv : Rep H (mkD m) v) : Rows (upd H a (.lst (us ++ [v]))) ras (R.set q (r ++ [m])) := by
  have tk : Tk H (upd H a (.lst (us ++ [v]))) := ((But.refl a H).upd).tkl hu
  have hm : (mkD m).hard = true := by
    have := mks_hard [m]
    simpa only [List.map, D.hards, Bool.and_true] using this
  refine ⟨by rw [List.length_set]; exact h.len, h.nd, fun j b s hb hs => ?_⟩
  by_cases c : q = j
  · subst c
    have hl : q < R.length := (List.getElem?_eq_some_iff.1 hr).1
    rw [List.getElem?_set_self hl] at hs
    cases hs
    rw [ha] at hb
    cases hb
    refine ⟨us ++ [v], upd_same, ?_⟩
    rw [List.map_append]
    exact (rs.tk tk (mks_hard r)).append (by simp only [List.map, Reps]; exact ⟨v, [], rfl, rv.tk tk hm, rfl⟩)
  · rw [List.getElem?_set_ne c] at hs
    obtain ⟨ws, hw, rw'⟩ := h.at_ j b s hb hs
    have ne : b ≠ a := fun e => False.elim (by
      rw [e] at hb
      have h1 := (List.getElem?_eq_some_iff.1 ha)
      have h2 := (List.getElem?_eq_some_iff.1 hb)
      have z := List.pairwise_iff_getElem.1 h.nd
      rcases Nat.lt_or_gt_of_ne c with l | l
      · exact absurd (h1.2.trans h2.2.symm) (z q j h1.1 h2.1 l)
      · exact absurd (h2.2.trans h1.2.symm) (z j q h2.1 h1.1 l))
    exact ⟨ws, by rw [upd_ne ne]; exact hw, rw'.tk tk (mks_hard s)⟩
def rowNames (R : List (List Mk)) : List Str := (R.map fun r => r.map Prod.fst).flatten
theorem rowNames_put : ∀ (R : List (List Mk)) (q : Nat) (r : List Mk) (m : Mk), R[q]? = some r → (rowNames (R.set q (r ++ [m]))).Perm (rowNames R ++ [m.1])
  | [], q, r, m, h => by simp at h
  | s :: R, 0, r, m, h => by
    cases h
    show ((s ++ [m]).map Prod.fst ++ rowNames R).Perm (s.map Prod.fst ++ rowNames R ++ [m.1])
    rw [List.map_append, List.append_assoc, List.append_assoc]
    exact List.Perm.append_left _ List.perm_append_comm
  | s :: R, q + 1, r, m, h => by
    show (s.map Prod.fst ++ rowNames (R.set q (r ++ [m]))).Perm (s.map Prod.fst ++ rowNames R ++ [m.1])
    rw [List.append_assoc]
    exact List.Perm.append_left _ (rowNames_put R q r m h)
def MkOk (ks : List Str) (m : Mk) : Prop := isName m.1 = true ∧ m.2.length ≤ 2 ∧ ∀ s ∈ m.2, s ∈ ks
theorem zip_names : ∀ (ks : List Str) (R : List (List Mk)), ks.length = R.length → mkNames (ks.zip R) = rowNames R
  | [], [], _ => rfl
  | [], _ :: _, h => by cases h
  | _ :: _, [], h => by cases h
  | k :: ks, r :: R, h => by
    show r.map Prod.fst ++ mkNames (ks.zip R) = r.map Prod.fst ++ rowNames R
    rw [zip_names ks R (Nat.succ.inj h)]
theorem wood_of {ks ns : List Str} {R : List (List Mk)} (hk : 1 ≤ ks.length ∧ ks.length ≤ 4) (hkn : ∀ k ∈ ks, isName k = true) (hkd : ks.Nodup) (hl : ks.length = R.length) (hR : ∀ r ∈ R, ∀ m ∈ r, MkOk ks m) (hp : (rowNames R).Perm ns) (hnd : ns.Nodup) (hn : ns.length ≤ 12) : WoodOk (ks.zip R) := by
  have e1 : (ks.zip R).map Prod.fst = ks := List.map_fst_zip (by omega)
  have e2 : (tabFrom 0 (ks.zip R)).map (fun e => e.2.1) = rowNames R := (tab_names _ _).trans (zip_names ks R hl)
  refine ⟨by rw [List.length_zip]; omega, fun k hk' => hkn k.1 (e1 ▸ List.mem_map.2 ⟨k, hk', rfl⟩), by rw [e1]; exact hkd, fun k hk' m hm => ?_, by rw [e2]; exact hp.nodup_iff.2 hnd, ?_⟩
  · have := hR k.2 (List.of_mem_zip hk').2 m hm
    rw [e1]
    exact this
  · have := congrArg List.length e2
    rw [List.length_map, hp.length_eq] at this
    omega
theorem zip_reps {H : Hp} : ∀ (ks : List Str) (R : List (List Mk)) (acc : List V), ks.length = R.length → acc.length = ks.length → (∀ (j : Nat) (v : V), acc[j]? = some v → ∃ k r, ks[j]? = some k ∧ R[j]? = some r ∧ Rep H (kindD (k, r)) v) → Reps H ((ks.zip R).map kindD) acc
  | [], [], acc, _, h, _ => by
    have : acc = [] := List.eq_nil_of_length_eq_zero h
    subst this
    simp only [List.zip_nil_left, List.map, Reps]
  | [], _ :: _, _, h, _, _ => by cases h
  | _ :: _, [], _, h, _, _ => by cases h
  | k :: ks, r :: R, [], _, h, _ => by cases h
  | k :: ks, r :: R, v :: acc, h, h2, h3 => by
    obtain ⟨k', r', e1, e2, rv⟩ := h3 0 v rfl
    cases e1
    cases e2
    have z := zip_reps ks R acc (Nat.succ.inj h) (Nat.succ.inj h2) fun j u hj => h3 (j + 1) u hj
    simp only [List.zip_cons_cons, List.map, Reps]
    exact ⟨v, acc, rfl, rv, z⟩
theorem kind_hard (k : Str × List Mk) : (kindD k).hard = true := by
  have := kinds_hard [k]
  simpa only [List.map, D.hards, Bool.and_true] using this
end Bk
set_option Elab.async false
set_option linter.all false
set_option maxRecDepth 100000
set_option maxHeartbeats 4000000
/-! Bk15: own errors with fields over ValueError. -/
namespace Bk
open PySem PySem.Spec PyProof.Rows L2
def spExc2 (K : PySem.W.Frag) (bm : List Value) (f g : Str) : Sp := fun vs H Q _ => ∃ (a C : Addr) (y z : V), vs = [.ref a, y, z] ∧ OexB K C "ValueError.__new__" bm ∧ OexC K C ∧ PySem.W.findIn K (.ref C) f = some none ∧ PySem.W.findIn K (.ref C) g = some none ∧ H a = some (exo a C none) ∧
  ∀ dx, H dx = none → dx ≠ a → Q .non (upd (upd (upd H dx (exd dx [(f, y)])) a (exo a C (some dx))) dx (exd dx [(g, z), (f, y)]))
section
variable {K : PySem.W.Frag} {bm : List Value} {C : Addr} {H1 : Hp} {Q : XK} {f g : Str} {y z : V}
theorem end_exc2 (x : OexB K C "ValueError.__new__" bm) (o : OexC K C) (n : PySem.W.findIn K (.ref C) f = some none) (n2 : PySem.W.findIn K (.ref C) g = some none) (h : ∀ d H', Ex H1 H' → H' d = some (.xd [(g, z), (f, y)]) → Q (.ref C) (some d) H') :
    [y, z].length ≤ 1000 ∧ ∀ a, H1 a = none → spExc2 K bm f g (.ref a :: ([y, z] ++ [])) (upd H1 a (exo a C none)) (fun v H2 => v = .non ∧ ∃ (d : Addr) (fs : List (Str × V)), H2 a = some (exo a C (some d)) ∧ H2 d = some (exd d fs) ∧ H1 d = none ∧ Q (.ref C) (some d) (upd (del H2 a) d (.xd fs))) (fun _ _ _ => False) := by
  refine ⟨(show 2 ≤ 1000 by decide), fun a ha => ⟨a, C, y, z, rfl, x, o, n, n2, upd_same, fun dx hdx ne => ⟨rfl, dx, [(g, z), (f, y)], ?_, upd_same, ?_, h dx _ (fun b u hu => ?_) upd_same⟩⟩⟩
  · rw [upd_ne (Ne.symm ne), upd_same]
  · rwa [upd_ne ne] at hdx
  · have nb : b ≠ a := ne_of_none hu ha
    have nd : b ≠ dx := fun e => by rw [e] at hu; rw [upd_ne ne, hu] at hdx; cases hdx
    rw [upd_ne nd, del_ne nb, upd_ne nd, upd_ne nb, upd_ne nd, upd_ne nb]
    exact hu
end
end Bk
set_option Elab.async false
set_option linter.all false
set_option maxRecDepth 100000
set_option maxHeartbeats 4000000
/-! Bk16: what a wood is refused for. -/
namespace Bk
open PySem PySem.Spec PyProof.Rows L2
end Bk
set_option Elab.async false
set_option linter.all false
set_option maxRecDepth 100000
set_option maxHeartbeats 4000000
/-! Bk17: caught errors with fields, isinstance by a tuple of classes; texts and tuples times a number. -/
namespace Bk
open PySem PySem.Spec PyProof.Rows L2
/-- isinstance of a caught error, with fields or none, by a class or a tuple of own classes -/
def DOk (H : Hp) (d : Option Addr) : Prop := d = none ∨ ∃ dd fs, d = some dd ∧ H dd = some (.xd fs)
def uIsX (K : PySem.W.Frag) (a : Addr) (cls : Value) (d : Option Addr) : List V → Hp → VK → Prop := fun xs H Q => ∃ D, cls = .ref D ∧ ExcC K D ∧ DOk H d ∧ ∃ c b, xs = [.ref a, c] ∧ Q (.bl b) H ∧
  ((∃ cv, (∀ u, RelV c u → u = cv) ∧ PySem.W.kitOne K (.ref D) cv = some b) ∨ (∃ (tp : Addr) (Cs : List Addr), c = .ref tp ∧ H tp = some (.tup (Cs.map V.ref)) ∧ PySem.W.kitAny K (.ref D) (Cs.map Value.ref) = some b))
theorem vals_refs : ∀ {Cs : List Addr} {us : List Value}, Vals (Cs.map V.ref) us → us = Cs.map Value.ref
  | [], us, h => by cases h; rfl
  | C :: Cs, us, h => by
    cases h with
    | cons r rr =>
      cases (show _ = Value.ref C from r)
      rw [vals_refs rr]
      rfl
theorem uk_isX {X : Cx} {a : Addr} {oe : Obj} {pn : List (Addr × Obj)} {cls : Value} {d : Option Addr} (hz : Zc cls d oe) (hf : ∃ vs, oe.data = .fields vs) : CallR (X.suite a ((a, oe) :: pn)) (.builtin "isinstance") (uIsX X.K a cls d) := by
  intro pins s σ H xs us Q I r h
  obtain ⟨D, rfl, C, hd, c, b, rfl, q, h⟩ := h
  obtain ⟨u1, u2, rfl, rx, rt⟩ := vals2 r
  cases (show u1 = Value.ref a from rx)
  obtain ⟨hget, _⟩ := I.pin (a, oe) (List.mem_append.mpr (.inl List.mem_cons_self))
  obtain ⟨vs, hv⟩ := hf
  have J : ∃ od, PySem.W.InstAt s.heap a oe D od := by
    rcases hd with rfl | ⟨dd, fs, rfl, ea⟩
    · refine ⟨none, ?_⟩
      obtain ⟨oc, od, oda, osl⟩ := oe
      obtain ⟨h1, h2⟩ := hz
      dsimp only at h1 h2 hv
      subst h1 h2 hv
      exact ⟨hget, rfl, rfl, trivial⟩
    · have hx : ObjOk X.prog X.w H s.heap dd (.xd fs) := I.hok dd _ ea
      obtain ⟨mA, hns, hr⟩ := hx
      obtain ⟨od, ho, hl⟩ := lookIn_ns hns
      exact ⟨some od, hget, hz.1, by unfold PySem.W.notCls; rw [hv] <;> rfl, by rw [hz.2]; exact ho⟩
  obtain ⟨od, J⟩ := J
  have cl : (PySem.W.clsIn X.K D).isSome = true := by
    obtain ⟨cdD, hcD, _⟩ := PySem.W.any_some C.hd
    rw [hcD]; rfl
  have Z := PySem.W.kitx_exc (x := a) (ox := oe) (od := od) cl C.hg C.hk C.hs C.ha C.hn C.ht C.hm
  rcases h with ⟨cv, hcv, e⟩ | ⟨tp, Cs, rfl, hT, e⟩
  · have ec := hcv _ rt
    subst ec
    exact PySem.W.kia_one Z I.kIn J e (fun z => nomatch z) fun tk => ⟨.bl b, H, I.kept (t' := tk) fun _ _ z => z, rfl, q⟩
  · cases (show u2 = Value.ref tp from rt)
    obtain ⟨_, its, rv, o, h1, h2, n, h3⟩ := (show ObjOk X.prog X.w H s.heap tp (.tup (Cs.map V.ref)) from I.hok tp _ hT)
    have e3 := vals_refs rv
    subst e3
    obtain ⟨oc, od2, dt, sl⟩ := o
    simp only at h2 h3
    subst h2 h3
    exact PySem.W.kia_tup Z I.kIn J h1 e (fun z => nomatch z) fun tk => ⟨.bl b, H, I.kept (t' := tk) fun _ _ z => z, rfl, q⟩
theorem uk_isK {X : Cx} (K : PySem.W.Frag) {a : Addr} {oe : Obj} {pn : List (Addr × Obj)} {cls : Value} {d : Option Addr} (hz : Zc cls d oe) (hf : ∃ vs, oe.data = .fields vs) (hK : X.K = K := by rfl) : CallR (X.suite a ((a, oe) :: pn)) (.builtin "isinstance") (uIsX K a cls d) := by
  subst hK
  exact uk_isX hz hf
theorem kitAny_no {K : PySem.W.Frag} {t : Value} : ∀ {Cs : List Addr}, (∀ C ∈ Cs, PySem.W.kitOne K t (.ref C) = some false) → PySem.W.kitAny K t (Cs.map Value.ref) = some false
  | [], _ => rfl
  | C :: Cs, h => kitAny_cons (h C List.mem_cons_self) (fun _ => kitAny_no fun D hD => h D (List.mem_cons_of_mem _ hD)) (fun z => nomatch z)
section
variable {K : PySem.W.Frag} {H : Hp} {Q : VK} {σ : L2.St} {D a : Addr} {d : Option Addr} {b : Bool}
theorem g_isXT {T : String} (C : ExcC K D) (hd : DOk H d) (h : PySem.W.kitOne K (.ref D) (.type T) = some b) (q : Q (.bl b) H) : uIsX K a (.ref D) d [.ref a, .ty T] H Q := ⟨D, rfl, C, hd, _, b, rfl, q, .inl ⟨_, fun u z => z, h⟩⟩
theorem g_isXC {E : Addr} (C : ExcC K D) (hd : DOk H d) (h : PySem.W.kitOne K (.ref D) (.ref E) = some b) (q : Q (.bl b) H) : uIsX K a (.ref D) d [.ref a, .ref E] H Q := ⟨D, rfl, C, hd, _, b, rfl, q, .inl ⟨_, fun u z => z, h⟩⟩
theorem g_isXN {tp : Addr} {Cs : List Addr} (C : ExcC K D) (hd : DOk H d) (hT : H tp = some (.tup (Cs.map V.ref))) (h : ∀ E ∈ Cs, PySem.W.kitOne K (.ref D) (.ref E) = some false) (q : Q (.bl false) H) : uIsX K a (.ref D) d [.ref a, .ref tp] H Q := ⟨D, rfl, C, hd, _, false, rfl, q, .inr ⟨tp, Cs, rfl, hT, kitAny_no h⟩⟩
theorem xfC (C : ExcC K D) : XfC K D := ⟨C.hg, C.hk, C.hs, C.hd⟩
end
section
variable {X : Cx}
theorem tuple_mul0 (l : Addr) (items : Array Value) (n : Nat) (dd : Option Addr) (sl : Array (Option Value)) (u : Tok) (c1 : (items.isEmpty || (0 : Int) == 1) = false) :
    Meets (Builtin.«tuple.__mul__» ⟨[.ref l, .int 0 u], []⟩) (fun _ R s => s.heap.get? l = some { cls := .type "tuple", dict := dd, data := .seq items n, slots := sl } ∧
      R (.ok (.ret (Value.ref s.heap.objs.size))) { s with heap := s.heap.push { cls := Value.type "tuple", data := Data.seq #[] }, toks := s.toks }) :=
  .of_wp fun prog w A R s h => by
    obtain ⟨hp, g, d, tk, os⟩ := s
    obtain ⟨hl, h⟩ := h
    have f1 := AutoSeq1.idx_int
    wp_walk using wpAny_loadPart' hl
    repeat (first
      | (refine wpAny_ite_false (decide_eq_false (by decide)) ?_; wp_walk using wpAny_loadPart' hl)
      | (refine wpAny_ite_false (decide_eq_false (by rw [c1]; exact Bool.false_ne_true)) ?_; wp_walk using wpAny_loadPart' hl)
      | (refine wpAny_ite_true (by simp) ?_; wp_walk using wpAny_loadPart' hl))
    exact ⟨_, rfl, h⟩
end
section
variable {K : PySem.W.Frag} {H : Hp} {Q : VK} {σ : L2.St}
/-- t + u, tuples -/
theorem g_catT {a b : Addr} {xs ys : List V} (ha : H a = some (.tup xs)) (hb : H b = some (.tup ys)) (hl : xs.length + ys.length ≤ 1000000) (h : ∀ p H', Ex H H' → H' p = some (.tup (xs ++ ys)) → Q (.ref p) H') : uAdd K (.ref a) (.ref b) H Q := by
  refine .inr ⟨a, b, xs, ys, rfl, rfl, sqT ha, sqT hb, Nat.le_trans hl (by decide), fun e => ?_, fun e f => ?_, fun e f p hp => h p _ (Ex.new hp) upd_same⟩
  · subst e
    exact h b H (Ex.refl _) hb
  · subst f
    exact h a H (Ex.refl _) (by rw [List.append_nil]; exact ha)
/-- t[lo:hi], a tuple -/
theorem g_slT {a : Addr} {xs : List V} {lo hi : Option Int} (ha : H a = some (.tup xs)) (h : ∀ p H', Ex H H' → H' p = some (.tup (cutV xs lo hi)) → Q (.ref p) H') : uSl K (.ref a) lo hi H Q := by
  refine .inr ⟨a, xs, rfl, sqT ha, fun e => ?_, fun e p hp => h p _ (Ex.new hp) upd_same⟩
  refine h a H (Ex.refl _) ?_
  unfold cutV
  rw [e.1, e.2, List.drop_zero, Nat.sub_zero, List.take_length]
  exact ha
theorem g_popAt {l : Addr} {xs : List V} {i : Nat} {y : V} (hl : H l = some (.lst xs)) (hz : xs.length ≤ 1000000) (hy : xs[i]? = some y) (q : Q y (upd H l (.lst (xs.eraseIdx i)))) : rPopAt (.ref l) [.int (i : Nat)] H Q := by
  have hi := (List.getElem?_eq_some_iff.1 hy).1
  refine ⟨l, xs, i, i, y, rfl, rfl, hl, by omega, by omega, ?_, hy, q⟩
  unfold seqIndex?
  simp
  omega
end
end Bk
set_option Elab.async false
set_option linter.all false
set_option maxRecDepth 100000
set_option maxHeartbeats 4000000
/-! Bk18: woods of any kind, let by or refused. -/
namespace Bk
open PySem PySem.Spec PyProof.Rows L2
/-- a wood within bounds, of any names -/
structure WdB (w : Wd) : Prop where
  wide : w.length ≤ 500
  name : ∀ k ∈ w, TextOk k.1
  row : ∀ k ∈ w, k.2.length ≤ 500
  mkr : ∀ k ∈ w, ∀ m ∈ k.2, TextOk m.1 ∧ m.2.length ≤ 500 ∧ ∀ s ∈ m.2, TextOk s
theorem TextOk.le {s : Str} (h : TextOk s) : s.length ≤ 100000 := Nat.le_trans h.1 (by decide)
theorem isName_text {s : Str} (h : isName s = true) : TextOk s := by
  have h2 := low_ok (isName_low h)
  unfold isName at h
  simp only [Bool.and_eq_true, decide_eq_true_eq] at h
  exact ⟨by omega, h2⟩
theorem WoodOk.bnd {w : Wd} (h : WoodOk w) : WdB w := ⟨by have := h.kinds; omega, fun k hk => isName_text (h.name k hk), fun k hk => by
    obtain ⟨i, hi⟩ := List.mem_iff_getElem?.1 hk
    have := h.many
    rw [tab_split w 0 i k hi, List.length_append, List.length_append, List.length_map] at this
    omega, fun k hk m hm => by
    have z := h.mkr k hk m hm
    refine ⟨isName_text z.1, by omega, fun s hs => ?_⟩
    obtain ⟨k', hk', rfl⟩ := List.mem_map.1 (z.2.2 s hs)
    exact isName_text (h.name k' hk')⟩
def KeysX (kvs : List (L2.Key × V)) (L : List Str) : Prop := kvs.length = L.length ∧ (∀ s, (valV kvs (.inr s)).isSome = true ↔ s ∈ L)
theorem putK_new {kvs : List (L2.Key × V)} {k : L2.Key} {v : V} (h : valV kvs k = none) : (putK kvs k v).length = kvs.length + 1 := by
  have hz : kvs.find? (fun kv => decide (kv.1 = k)) = none := by
    unfold valV at h
    exact Option.map_eq_none_iff.1 h
  unfold putK
  rw [if_neg, List.length_append, List.length_singleton]
  intro z
  obtain ⟨kv, hkv, e⟩ := List.any_eq_true.1 z
  exact List.find?_eq_none.1 hz kv hkv e
theorem KeysX.none {kvs : List (L2.Key × V)} {L : List Str} {s : Str} (h : KeysX kvs L) (hn : s ∉ L) : valV kvs (.inr s) = none := by
  cases e : valV kvs (.inr s) with
  | none => rfl
  | some v => exact absurd ((h.2 s).1 (by rw [e]; rfl)) hn
theorem KeysX.put {kvs : List (L2.Key × V)} {L : List Str} {s : Str} {v : V} (h : KeysX kvs L) (hn : s ∉ L) : KeysX (putK kvs (.inr s) v) (L ++ [s]) := by
  have z : KeysIn kvs L := ⟨by rw [h.1]; exact Nat.le_refl _, h.2⟩
  exact ⟨by rw [putK_new (h.none hn), h.1, List.length_append, List.length_singleton], (z.put (v := v)).2⟩
theorem acc_map {α : Type} {acc : List V} {xs : List α} {f : α → V} (hl : acc.length = xs.length) (h : ∀ (j : Nat) (v : V), acc[j]? = some v → ∃ x, xs[j]? = some x ∧ v = f x) : acc = xs.map f := by
  refine List.ext_getElem? fun j => ?_
  rw [List.getElem?_map]
  cases c : acc[j]? with
  | none =>
    have := List.getElem?_eq_none_iff.1 c
    rw [List.getElem?_eq_none_iff.2 (by omega : xs.length ≤ j)]
    rfl
  | some v =>
    obtain ⟨x, hx, rfl⟩ := h j v c
    rw [hx]
    rfl
theorem drop_at {α : Type} {l : List α} {i : Nat} {x : α} (h : l[i]? = some x) : l.drop i = x :: l.drop (i + 1) := by
  obtain ⟨h1, h2⟩ := List.getElem?_eq_some_iff.1 h
  rw [← h2, List.getElem_cons_drop]
theorem take_at {α : Type} {l : List α} {i : Nat} {x : α} (h : l[i]? = some x) : l.take (i + 1) = l.take i ++ [x] := by
  rw [List.take_add_one, h]
  rfl
/-- what the law finds due -/
def dueD2 : Option (Str × Str) → D
  | none => .non
  | some r => .tup [.str r.1, .str r.2]
theorem i_nb {A B : Prop} {b : Bool} (h1 : b = false → A) (h2 : b = true → B) : if (!b) = true then A else B := by
  cases b with
  | false => rw [if_pos (by decide)]; exact h1 rfl
  | true => rw [if_neg (by decide)]; exact h2 rfl
/-- a wood drawn and spoilt n times -/
structure WdT (n : Nat) (w : Wd) : Prop where
  wide : w.length ≤ 4 + n
  name : ∀ k ∈ w, TextOk k.1
  row : ∀ k ∈ w, k.2.length ≤ 12 + 5 * n
  mkr : ∀ k ∈ w, ∀ m ∈ k.2, TextOk m.1 ∧ m.2.length ≤ 2 + 7 * n ∧ ∀ s ∈ m.2, TextOk s
theorem WdT.bnd {n : Nat} {w : Wd} (h : WdT n w) (hn : n ≤ 20) : WdB w := ⟨by have := h.wide; omega, h.name, fun k hk => by have := h.row k hk; omega, fun k hk m hm => by
  obtain ⟨a, b, c⟩ := h.mkr k hk m hm
  exact ⟨a, by omega, c⟩⟩
end Bk
set_option Elab.async false
set_option linter.all false
set_option maxRecDepth 100000
set_option maxHeartbeats 4000000
/-! Bk19: a wood laid out as lists, by the sorts of its objects. -/
namespace Bk
open PySem PySem.Spec PyProof.Rows L2
abbrev Sorts := Addr → Nat
/-- an object of a sort: 1 a kind's row, 2 a list of makers, 3 a maker -/
def Sorted (n : Nat) (c : Sorts) (H : Hp) (k : Nat) (o : HO) : Prop :=
  (k = 1 → ∃ (s : Str) (b : Addr), o = .lst [.str s, .ref b] ∧ TextOk s ∧ c b = 2) ∧
  (k = 2 → ∃ xs : List V, o = .lst xs ∧ xs.length ≤ 12 + 5 * n ∧ ∀ x ∈ xs, ∃ b, x = .ref b ∧ c b = 3) ∧
  (k = 3 → ∃ (s : Str) (t : Addr) (ps : List Str), o = .lst [.str s, .ref t] ∧ TextOk s ∧ H t = some (.tup (ps.map V.str)) ∧ ps.length ≤ 2 + 7 * n ∧ ∀ p ∈ ps, TextOk p)
def TyH (n : Nat) (c : Sorts) (H : Hp) : Prop := ∀ a, c a ≠ 0 → c a ≤ 3 ∧ ∃ o, H a = some o ∧ Sorted n c H (c a) o
def setC (c : Sorts) (a : Addr) (k : Nat) : Sorts := fun b => if b = a then k else c b
theorem setC_same {c : Sorts} {a : Addr} {k : Nat} : setC c a k a = k := if_pos rfl
theorem setC_ne {c : Sorts} {a b : Addr} {k : Nat} (h : b ≠ a) : setC c a k b = c b := if_neg h
theorem Sorted.lst {n : Nat} {c : Sorts} {H : Hp} {k : Nat} {o : HO} (h : Sorted n c H k o) (h0 : k ≠ 0) (h3 : k ≤ 3) : ∃ xs, o = .lst xs := by
  have : k = 1 ∨ k = 2 ∨ k = 3 := by omega
  rcases this with rfl | rfl | rfl
  · obtain ⟨_, _, e, _⟩ := h.1 rfl
    exact ⟨_, e⟩
  · obtain ⟨_, e, _⟩ := h.2.1 rfl
    exact ⟨_, e⟩
  · obtain ⟨_, _, _, e, _⟩ := h.2.2 rfl
    exact ⟨_, e⟩
theorem TyH.lst {n : Nat} {c : Sorts} {H : Hp} (h : TyH n c H) {a : Addr} (ha : c a ≠ 0) : ∃ xs, H a = some (.lst xs) := by
  obtain ⟨l, o, e, s⟩ := h a ha
  obtain ⟨xs, rfl⟩ := s.lst ha l
  exact ⟨xs, e⟩
theorem TyH.c0 {n : Nat} {c : Sorts} {H : Hp} (h : TyH n c H) {a : Addr} (ha : H a = none) : c a = 0 := by
  refine Classical.byContradiction fun z => ?_
  obtain ⟨xs, e⟩ := h.lst z
  rw [ha] at e
  cases e
theorem Sorted.mono {n n' : Nat} {c c' : Sorts} {H H' : Hp} {k : Nat} {o : HO} (hn : n ≤ n') (hc : ∀ b, c b ≠ 0 → c' b = c b) (ht : Tk H H') (h : Sorted n c H k o) : Sorted n' c' H' k o := by
  refine ⟨fun e => ?_, fun e => ?_, fun e => ?_⟩
  · obtain ⟨s, b, e1, e2, e3⟩ := h.1 e
    exact ⟨s, b, e1, e2, by rw [hc b (by omega)]; exact e3⟩
  · obtain ⟨xs, e1, e2, e3⟩ := h.2.1 e
    refine ⟨xs, e1, by omega, fun x hx => ?_⟩
    obtain ⟨b, e4, e5⟩ := e3 x hx
    exact ⟨b, e4, by rw [hc b (by omega)]; exact e5⟩
  · obtain ⟨s, t, ps, e1, e2, e3, e4, e5⟩ := h.2.2 e
    exact ⟨s, t, ps, e1, e2, ht _ _ e3, by omega, e5⟩
/-- what keeps the sorted objects and all tuples -/
theorem TyH.keep {n : Nat} {c : Sorts} {H H' : Hp} (h : TyH n c H) (ht : Tk H H') (hk : ∀ a, c a ≠ 0 → H' a = H a) : TyH n c H' := fun a ha => by
  obtain ⟨l, o, e, s⟩ := h a ha
  exact ⟨l, o, (hk a ha).trans e, s.mono (Nat.le_refl _) (fun _ _ => rfl) ht⟩
theorem TyH.ex {n : Nat} {c : Sorts} {H H' : Hp} (h : TyH n c H) (e : Ex H H') : TyH n c H' := h.keep e.tk fun a ha => by
  obtain ⟨xs, q⟩ := h.lst ha
  rw [q, e _ _ q]
theorem TyH.le {n m : Nat} {c : Sorts} {H : Hp} (h : TyH n c H) (hn : n ≤ m) : TyH m c H := fun a ha => by
  obtain ⟨l, o, e, s⟩ := h a ha
  exact ⟨l, o, e, s.mono hn (fun _ _ => rfl) (Tk.refl _)⟩
/-- a sorted object changed -/
theorem TyH.set {n : Nat} {c : Sorts} {H : Hp} {a : Addr} {o : HO} (h : TyH n c H) (ha : c a ≠ 0) (ho : Sorted n c H (c a) o) : TyH n c (upd H a o) := by
  obtain ⟨xs, q⟩ := h.lst ha
  have t : Tk H (upd H a o) := ((But.refl a H).upd).tkl q
  intro b hb
  by_cases e : b = a
  · subst e
    exact ⟨(h b hb).1, o, upd_same, ho.mono (Nat.le_refl _) (fun _ _ => rfl) t⟩
  · obtain ⟨l, o', e1, s⟩ := h b hb
    exact ⟨l, o', by rw [upd_ne e]; exact e1, s.mono (Nat.le_refl _) (fun _ _ => rfl) t⟩
/-- an object that had no sort gets one -/
theorem TyH.cls {n : Nat} {c : Sorts} {H : Hp} {a : Addr} {k : Nat} {o : HO} (h : TyH n c H) (ha : c a = 0) (hk : k ≤ 3) (q : H a = some o) (ho : Sorted n c H k o) : TyH n (setC c a k) H ∧ ∀ b, c b ≠ 0 → setC c a k b = c b := by
  have hc : ∀ b, c b ≠ 0 → setC c a k b = c b := fun b hb => setC_ne fun e => hb (e ▸ ha)
  refine ⟨fun b hb => ?_, hc⟩
  by_cases e : b = a
  · subst e
    rw [setC_same]
    exact ⟨hk, o, q, ho.mono (Nat.le_refl _) hc (Tk.refl _)⟩
  · rw [setC_ne e] at hb ⊢
    obtain ⟨l, o', e1, s⟩ := h b hb
    exact ⟨l, o', e1, s.mono (Nat.le_refl _) hc (Tk.refl _)⟩
/-- an unsorted list changed -/
theorem TyH.other {n : Nat} {c : Sorts} {H : Hp} {a : Addr} {o : HO} {xs : List V} (h : TyH n c H) (ha : c a = 0) (q : H a = some (.lst xs)) : TyH n c (upd H a o) :=
  h.keep (((But.refl a H).upd).tkl q) fun b hb => upd_ne fun e => hb (e ▸ ha)
theorem TyH.but {n : Nat} {c : Sorts} {H H' : Hp} {p : Addr} (h : TyH n c H) (b : But p H H') (hp : Box H p) (c0 : c p = 0) : TyH n c H' := h.keep (hp.tk b) fun a ha => by
  obtain ⟨xs, q⟩ := h.lst ha
  have ne : a ≠ p := fun e => ha (by rw [e]; exact c0)
  rw [q, b _ _ ne q]
/-- fresh: what is sorted is new to H0 -/
def FreshC (c : Sorts) (H0 : Hp) : Prop := ∀ a, c a ≠ 0 → H0 a = none
theorem FreshC.set {c : Sorts} {H0 : Hp} {a : Addr} {k : Nat} (h : FreshC c H0) (ha : H0 a = none) : FreshC (setC c a k) H0 := fun b hb => by
  by_cases e : b = a
  · rw [e]; exact ha
  · rw [setC_ne e] at hb
    exact h b hb
/-- the rows: a list of such -/
def RowsAt (m : Nat) (c : Sorts) (xs : List V) : Prop := xs.length ≤ m ∧ ∀ x ∈ xs, ∃ b, x = .ref b ∧ c b = 1
theorem RowsAt.mono {m : Nat} {c c' : Sorts} {xs : List V} (h : RowsAt m c xs) (hc : ∀ b, c b ≠ 0 → c' b = c b) : RowsAt m c' xs := ⟨h.1, fun x hx => by
  obtain ⟨b, e, q⟩ := h.2 x hx
  exact ⟨b, e, by rw [hc b (by omega)]; exact q⟩⟩
/-- values that are data, each -/
theorem acc_reps {α : Type} {H : Hp} {f : α → D} {P : α → Prop} : ∀ {acc : List V}, (∀ (j : Nat) (v : V), acc[j]? = some v → ∃ x, P x ∧ Rep H (f x) v) → ∃ xs : List α, xs.length = acc.length ∧ (∀ x ∈ xs, P x) ∧ Reps H (xs.map f) acc
  | [], _ => ⟨[], rfl, fun _ z => (nomatch z), by simp only [List.map, Reps]⟩
  | v :: acc, h => by
    obtain ⟨x, px, rx⟩ := h 0 v rfl
    obtain ⟨xs, hl, hp, hr⟩ := acc_reps (acc := acc) fun j u hj => h (j + 1) u hj
    refine ⟨x :: xs, by simp [hl], fun y hy => ?_, ?_⟩
    · rcases List.mem_cons.1 hy with rfl | hy
      · exact px
      · exact hp y hy
    · simp only [List.map, Reps]
      exact ⟨v, acc, rfl, rx, hr⟩
/-! ### a list compared with the empty one -/
def DpOk (K : PySem.W.Frag) (H : Hp) (v : V) (k : Nat) : Prop := ∃ d, Dp K H v d ∧ d.canLay0 = true ∧ d.depth ≤ k
theorem dpok_str {K : PySem.W.Frag} {H : Hp} {s : Str} {k : Nat} (h : ∀ c ∈ s.cps.toList, c < 0x110000) : DpOk K H (.str s) k := ⟨.str s, .str s, by
  show s.cps.all (· < 0x110000) = true
  rw [Array.all_eq_true']
  intro x hx
  exact decide_eq_true (h x (Array.mem_toList_iff.2 hx)), Nat.zero_le _⟩
theorem dpok_all {K : PySem.W.Frag} {H : Hp} {k : Nat} : ∀ {xs : List V}, (∀ x ∈ xs, DpOk K H x k) → ∃ ds, DpAll K H xs ds ∧ PyData.canLayAll0 ds = true ∧ PyData.depthAll ds ≤ k ∧ ds.length = xs.length
  | [], _ => ⟨[], .nil, rfl, Nat.zero_le _, rfl⟩
  | x :: xs, h => by
    obtain ⟨d, h1, h2, h3⟩ := h x List.mem_cons_self
    obtain ⟨ds, k1, k2, k3, k4⟩ := dpok_all (xs := xs) fun y hy => h y (List.mem_cons_of_mem _ hy)
    refine ⟨d :: ds, .cons h1 k1, ?_, ?_, by simp [k4]⟩
    · show (d.canLay0 && PyData.canLayAll0 ds) = true
      rw [h2, k2]
      rfl
    · show max d.depth (PyData.depthAll ds) ≤ k
      omega
theorem g_neNil {K : PySem.W.Frag} {H : Hp} {Q : VK} {a b : Addr} {xs : List V} (ha : H a = some (.lst xs)) (hb : H b = some (.lst [])) (h : ∀ x ∈ xs, DpOk K H x 60) (q : Q (.bl (!xs.isEmpty)) H) : rNeD K (.ref a) (.ref b) H Q := by
  obtain ⟨ds, h1, h2, h3, h4⟩ := dpok_all h
  refine ⟨.list ds, .list [], .lst (sqL ha) h1, .lst (sqL hb) .nil, ?_, rfl, ?_⟩
  · show (PyData.canLayAll0 ds && decide (PyData.depthAll ds + 1 ≤ 64)) = true
    rw [h2, decide_eq_true (by omega)]
    rfl
  · have e : PyData.eqv (.list ds) (.list []) = xs.isEmpty := by
      show PyData.eqvAll ds [] = xs.isEmpty
      cases ds with
      | nil =>
        have : xs = [] := List.eq_nil_of_length_eq_zero h4.symm
        subst this
        rfl
      | cons d ds =>
        cases xs with
        | nil => cases h4
        | cons x xs => rfl
    rw [e]
    exact q
/-! ### the state while a wood is spoilt -/
structure SpSt (p R : Addr) (n m : Nat) (c : Sorts) (H H1 : Hp) (rows : List V) : Prop where
  bx0 : Box H p
  bt : But p H H1
  bx : Box H1 p
  at_ : H1 R = some (.lst rows)
  ty : TyH n c H1
  fr : FreshC c H
  cR : c R = 0
  hR : H R = none
  rw : RowsAt m c rows
section
variable {p R : Addr} {n m : Nat} {c : Sorts} {H H1 H2 : Hp} {rows : List V}
theorem SpSt.np (s : SpSt p R n m c H H1 rows) {a : Addr} (ha : H a = none) : a ≠ p := fun e => by
  obtain ⟨_, _, _, q⟩ := s.bx0
  rw [← e, ha] at q
  cases q
theorem SpSt.cp (s : SpSt p R n m c H H1 rows) : c p = 0 := Classical.byContradiction fun z => s.np (s.fr p z) rfl
theorem SpSt.free (s : SpSt p R n m c H H1 rows) {a : Addr} (ha : H1 a = none) : H a = none := by
  cases e : H a with
  | none => rfl
  | some o =>
    by_cases z : a = p
    · subst z
      obtain ⟨_, _, _, q⟩ := s.bx
      rw [ha] at q
      cases q
    · rw [s.bt _ _ z e] at ha
      cases ha
theorem SpSt.but (s : SpSt p R n m c H H1 rows) (b : But p H1 H2) (hb : Box H2 p) : SpSt p R n m c H H2 rows :=
  ⟨s.bx0, s.bt.trans b, hb, b _ _ (s.np s.hR) s.at_, s.ty.but b s.bx s.cp, s.fr, s.cR, s.hR, s.rw⟩
theorem SpSt.ex (s : SpSt p R n m c H H1 rows) (e : Ex H1 H2) : SpSt p R n m c H H2 rows := s.but (e.but p) (s.bx.ex e)
/-- an unsorted new list changed -/
theorem SpSt.other (s : SpSt p R n m c H H1 rows) {a : Addr} {o : HO} {xs : List V} (cN : c a = 0) (hN : H a = none) (q : H1 a = some (.lst xs)) (ne : R ≠ a) : SpSt p R n m c H (upd H1 a o) rows :=
  ⟨s.bx0, s.bt.at_new hN, s.bx.at_upd (s.np hN), by rw [upd_ne ne]; exact s.at_, s.ty.other cN q, s.fr, s.cR, s.hR, s.rw⟩
/-- a sorted object changed -/
theorem SpSt.set (s : SpSt p R n m c H H1 rows) {a : Addr} {o : HO} (ha : c a ≠ 0) (ho : Sorted n c H1 (c a) o) : SpSt p R n m c H (upd H1 a o) rows :=
  ⟨s.bx0, s.bt.at_new (s.fr a ha), s.bx.at_upd (s.np (s.fr a ha)), by rw [upd_ne (fun e => ha (by rw [← e]; exact s.cR))]; exact s.at_, s.ty.set ha ho, s.fr, s.cR, s.hR, s.rw⟩
/-- a new sorted object -/
theorem SpSt.cls (s : SpSt p R n m c H H1 rows) {a : Addr} {k : Nat} {o : HO} (ha : c a = 0) (hN : H a = none) (ne : R ≠ a) (hk : k ≤ 3) (q : H1 a = some o) (ho : Sorted n c H1 k o) : SpSt p R n m (setC c a k) H H1 rows ∧ ∀ b, c b ≠ 0 → setC c a k b = c b := by
  obtain ⟨h1, h2⟩ := s.ty.cls ha hk q ho
  exact ⟨⟨s.bx0, s.bt, s.bx, s.at_, h1, s.fr.set hN, by rw [setC_ne ne]; exact s.cR, s.hR, s.rw.mono h2⟩, h2⟩
/-- other rows -/
theorem SpSt.put (s : SpSt p R n m c H H1 rows) {m' : Nat} {rows' : List V} (h : RowsAt m' c rows') : SpSt p R n m' c H (upd H1 R (.lst rows')) rows' :=
  ⟨s.bx0, s.bt.at_new s.hR, s.bx.at_upd (s.np s.hR), upd_same, s.ty.other s.cR s.at_, s.fr, s.cR, s.hR, h⟩
theorem SpSt.le (s : SpSt p R n m c H H1 rows) {n' m' : Nat} (h1 : n ≤ n') (h2 : m ≤ m') : SpSt p R n' m' c H H1 rows :=
  ⟨s.bx0, s.bt, s.bx, s.at_, s.ty.le h1, s.fr, s.cR, s.hR, Nat.le_trans s.rw.1 h2, s.rw.2⟩
end
end Bk
set_option Elab.async false
set_option linter.all false
set_option maxRecDepth 100000
set_option maxHeartbeats 4000000
/-! Bk20: zip(a, b, strict=True), a and b lists or tuples of one length. -/
namespace Bk
open PySem PySem.Spec PyProof.Rows L2
abbrev IsZipS (h : Heap) (z TI TO : Addr) (f0 : Value) : Prop := h.get? z = some { cls := .type "zip", dict := none, data := .fields #[f0, .bool false, .bool true, .ref TI, .ref TO], slots := #[] }
section
variable {prog : Program} {w : World} {A : Around} {E : Value → Shared → Prop} {s : Shared}
theorem oe_item {k : Bool} {it l : Addr} {i : Nat} {xs : Array Value} {x : Value} {Q : Option Value → Shared → Prop} (hit : SIt s.heap k it l i xs) (hn : l ≠ it) (hx : xs[i]? = some x)
    (hQ : ∀ h', SIt h' k it l (i + 1) xs → Heap.SameBut it s.heap h' → Q (some x) { s with heap := h' }) : wpAny (model prog w) A (Builtin.SmallTypes.nextOrEnd (.ref it)) Q E s := by
  unfold Builtin.SmallTypes.nextOrEnd
  exact wpAny_bind (wpAny_attempt (sit_item hit hn hx fun h' a b => wpAny_pure (hQ h' a b)))
theorem oe_end {k : Bool} {it l : Addr} {i : Nat} {xs : Array Value} {Q : Option Value → Shared → Prop} (hh : A.handled = none) (hit : SIt s.heap k it l i xs) (hx : xs[i]? = none)
    (hQ : ∀ h', Heap.ExtBut it s.heap h' → Q none { s with heap := h' }) : wpAny (model prog w) A (Builtin.SmallTypes.nextOrEnd (.ref it)) Q E s := by
  unfold Builtin.SmallTypes.nextOrEnd
  refine wpAny_bind (wpAny_attempt (sit_end hh hit hx fun h' e hs he => ?_))
  obtain ⟨o, ho, hc⟩ := he
  refine wpAny_bind (wpAny_isInstance (T := "StopIteration") (b := true) ⟨o, ho, hc⟩ isSubtype_stop ?_)
  exact wpAny_pure (hQ _ hs)
theorem sz_item {k1 k2 : Bool} {z TI TO i1 i2 l1 l2 : Addr} {i : Nat} {xs ys : Array Value} {x y a b : Value} {Q : Value → Shared → Prop} (D : ZipApart z TI TO i1 i2 l1 l2)
    (hz : IsZipS s.heap z TI TO .none) (hTI : IsPair s.heap TI (.ref i1) (.ref i2)) (hTO : IsPair s.heap TO a b) (h1 : SIt s.heap k1 i1 l1 i xs) (h2 : SIt s.heap k2 i2 l2 i ys) (hx : xs[i]? = some x) (hy : ys[i]? = some y)
    (hQ : ∀ h', IsZipS h' z TI TO (rawInt s.heap.objs.size) → IsPair h' TO x y → SIt h' k1 i1 l1 (i + 1) xs → SIt h' k2 i2 l2 (i + 1) ys → IsPair h' s.heap.objs.size x y → h'.objs.size = s.heap.objs.size + 1 →
      (∀ c o, c ≠ z → c ≠ TO → c ≠ i1 → c ≠ i2 → s.heap.get? c = some o → h'.get? c = some o) → Q (.ref s.heap.objs.size) { s with heap := h' }) :
    wpAny (model prog w) A (Builtin.«zip.__next__» ⟨[.ref z], []⟩) (fun fin s' => ∃ v, fin = .done (.ret v) ∧ Q v s') E s := by
  show wpAny _ _ (field (.ref z) 2 >>= _) _ _ _
  refine wpAny_bind (wpAny_field hz rfl (x := .bool true) rfl ?_)
  show wpAny _ _ (field (.ref z) 3 >>= _) _ _ _
  refine wpAny_bind (wpAny_field hz rfl (x := .ref TI) rfl ?_)
  refine wpAny_bind (wpAny_seqItems hTI rfl ?_)
  show wpAny _ _ (Builtin.SmallTypes.ownedTupleIsFree (.ref z) >>= _) _ _ _
  refine wpAny_bind ?_
  unfold Builtin.SmallTypes.ownedTupleIsFree
  refine wpAny_bind (wpAny_field hz rfl (x := .none) rfl (wpAny_pure ?_))
  simp only [if_true]
  refine wpAny_bind (wpAny_rule ?_)
  refine wpAny_bind (wpAny_field hz rfl (x := .ref TO) rfl ?_)
  refine wpAny_bind (wpAny_setField_rec hz (by simp) fun g1 hz1 hs1 => ?_)
  replace hz1 : IsZipS g1 z TI TO .ellipsis := hz1
  refine wpAny_bind ?_
  simp only [List.zipIdx_cons, List.zipIdx_nil, List.forIn_cons, List.forIn_nil]
  refine wpAny_bind (wpAny_bind (wpAny_onRaise ?_))
  show wpAny _ _ (Builtin.SmallTypes.nextOrEnd (.ref i1)) _ _ _
  refine oe_item (h1.keep (fun o e => hs1.extBut _ _ D.i1z e) (fun o e => hs1.extBut _ _ D.l1z e)) D.l1i1 hx fun g2 h12 hs2 => ?_
  have hTO2 : IsPair g2 TO a b := hs2.extBut _ _ D.TOi1 (hs1.extBut _ _ D.TOz hTO)
  refine wpAny_bind (wpAny_seqItems hTO2 rfl ?_)
  refine wpAny_bind (wpAny_updateSeq_pair hTO2 fun g3 hTO3 hs3 => ?_)
  replace hTO3 : IsPair g3 TO x b := hTO3
  refine wpAny_bind (wpAny_letGo (wpAny_pure ?_))
  refine wpAny_bind (wpAny_bind (wpAny_onRaise ?_))
  show wpAny _ _ (Builtin.SmallTypes.nextOrEnd (.ref i2)) _ _ _
  refine oe_item (h2.keep (fun o e => hs3.extBut _ _ D.TOi2.symm (hs2.extBut _ _ D.i12.symm (hs1.extBut _ _ D.i2z e))) (fun o e => hs3.extBut _ _ D.l2TO (hs2.extBut _ _ D.l2i1 (hs1.extBut _ _ D.l2z e)))) D.l2i2 hy fun g4 h24 hs4 => ?_
  have hTO4 : IsPair g4 TO x b := hs4.extBut _ _ D.TOi2 hTO3
  refine wpAny_bind (wpAny_seqItems hTO4 rfl ?_)
  refine wpAny_bind (wpAny_updateSeq_pair hTO4 fun g5 hTO5 hs5 => ?_)
  replace hTO5 : IsPair g5 TO x y := hTO5
  refine wpAny_bind (wpAny_letGo (wpAny_pure (wpAny_pure ?_)))
  refine wpAny_bind (wpAny_seqItems hTO5 rfl ?_)
  refine wpAny_bind (wpAny_newTuple ?_)
  have hsz : g5.objs.size = s.heap.objs.size := by rw [hs5.1, hs4.1, hs3.1, hs2.1, hs1.1]
  have kp : ∀ c o, c ≠ z → c ≠ TO → c ≠ i1 → c ≠ i2 → s.heap.get? c = some o → g5.get? c = some o := fun c o c1 c2 c3 c4 e =>
    hs5.extBut _ _ c2 (hs4.extBut _ _ c4 (hs3.extBut _ _ c2 (hs2.extBut _ _ c3 (hs1.extBut _ _ c1 e))))
  have hz5 : IsZipS g5 z TI TO .ellipsis := hs5.extBut _ _ D.TOz.symm (hs4.extBut _ _ D.i2z.symm (hs3.extBut _ _ D.TOz.symm (hs2.extBut _ _ D.i1z.symm hz1)))
  have h15 : SIt g5 k1 i1 l1 (i + 1) xs := h12.keep (fun o e => hs5.extBut _ _ D.TOi1.symm (hs4.extBut _ _ D.i12 (hs3.extBut _ _ D.TOi1.symm e))) (fun o e => hs5.extBut _ _ D.l1TO (hs4.extBut _ _ D.l1i2 (hs3.extBut _ _ D.l1TO e)))
  have h25 : SIt g5 k2 i2 l2 (i + 1) ys := h24.keep (fun o e => hs5.extBut _ _ D.TOi2.symm e) (fun o e => hs5.extBut _ _ D.l2TO e)
  have hzlt : z < g5.objs.size := Heap.lt_size hz5
  show wpAny _ _ (Builtin.SmallTypes.ownedTupleHandOut (.ref z) (.ref g5.objs.size) >>= _) _ _ _
  refine wpAny_bind ?_
  unfold Builtin.SmallTypes.ownedTupleHandOut
  have hz6 : IsZipS (g5.push { cls := .type "tuple", data := .seq #[x, y] }) z TI TO .ellipsis := Heap.get?_push_of_some _ hz5
  refine wpAny_bind (wpAny_setField_rec hz6 (by simp) fun g7 hz7 hs7 => ?_)
  replace hz7 : IsZipS g7 z TI TO (rawInt g5.objs.size) := hz7
  refine wpAny_setField_rec hz7 (by simp) fun g8 hz8 hs8 => ?_
  replace hz8 : IsZipS g8 z TI TO (rawInt g5.objs.size) := hz8
  have up : ∀ c o, c ≠ z → g5.get? c = some o → g8.get? c = some o := fun c o c1 e => hs8.extBut _ _ c1 (hs7.extBut _ _ c1 (Heap.get?_push_of_some _ e))
  have hT8 : IsPair g8 g5.objs.size x y := hs8.extBut _ _ (Nat.ne_of_gt hzlt) (hs7.extBut _ _ (Nat.ne_of_gt hzlt) (Heap.get?_push_size _ rfl))
  have z8 : g8.objs.size = g5.objs.size + 1 := by rw [hs8.1, hs7.1, Heap.size_push]
  rw [hsz] at hz8 hT8 z8
  refine wpAny_pure ⟨_, rfl, ?_⟩
  show Q (.ref g5.objs.size) _
  rw [hsz]
  exact hQ g8 hz8 (up _ _ D.TOz hTO5) (h15.keep (fun o e => up _ o D.i1z e) (fun o e => up _ o D.l1z e)) (h25.keep (fun o e => up _ o D.i2z e) (fun o e => up _ o D.l2z e)) hT8 z8 fun c o c1 c2 c3 c4 e => up c o c1 (kp c o c1 c2 c3 c4 e)
theorem sz_end {k1 k2 : Bool} {z TI TO i1 i2 l1 l2 : Addr} {i : Nat} {xs ys : Array Value} {a b : Value} {Q : Fin → Shared → Prop} (hh : A.handled = none) (D : ZipApart z TI TO i1 i2 l1 l2)
    (hz : IsZipS s.heap z TI TO .none) (hTI : IsPair s.heap TI (.ref i1) (.ref i2)) (hTO : IsPair s.heap TO a b) (h1 : SIt s.heap k1 i1 l1 i xs) (h2 : SIt s.heap k2 i2 l2 i ys) (hx : xs[i]? = none) (hy : ys[i]? = none)
    (hE : ∀ h' e, (∀ c o, c ≠ z → c ≠ TO → c ≠ i1 → c ≠ i2 → s.heap.get? c = some o → h'.get? c = some o) → (∃ o, h'.get? e = some o ∧ o.cls = .type "StopIteration") → E (.ref e) { s with heap := h' }) :
    wpAny (model prog w) A (Builtin.«zip.__next__» ⟨[.ref z], []⟩) Q E s := by
  show wpAny _ _ (field (.ref z) 2 >>= _) _ _ _
  refine wpAny_bind (wpAny_field hz rfl (x := .bool true) rfl ?_)
  show wpAny _ _ (field (.ref z) 3 >>= _) _ _ _
  refine wpAny_bind (wpAny_field hz rfl (x := .ref TI) rfl ?_)
  refine wpAny_bind (wpAny_seqItems hTI rfl ?_)
  show wpAny _ _ (Builtin.SmallTypes.ownedTupleIsFree (.ref z) >>= _) _ _ _
  refine wpAny_bind ?_
  unfold Builtin.SmallTypes.ownedTupleIsFree
  refine wpAny_bind (wpAny_field hz rfl (x := .none) rfl (wpAny_pure ?_))
  simp only [if_true]
  refine wpAny_bind (wpAny_rule ?_)
  refine wpAny_bind (wpAny_field hz rfl (x := .ref TO) rfl ?_)
  refine wpAny_bind (wpAny_setField_rec hz (by simp) fun g1 hz1 hs1 => ?_)
  replace hz1 : IsZipS g1 z TI TO .ellipsis := hz1
  refine wpAny_bind ?_
  simp only [List.zipIdx_cons, List.zipIdx_nil, List.forIn_cons, List.forIn_nil]
  refine wpAny_bind (wpAny_bind (wpAny_onRaise ?_))
  show wpAny _ _ (Builtin.SmallTypes.nextOrEnd (.ref i1)) _ _ _
  refine oe_end hh (h1.keep (fun o e => hs1.extBut _ _ D.i1z e) (fun o e => hs1.extBut _ _ D.l1z e)) hx fun g2 hs2 => ?_
  have hz2 : IsZipS g2 z TI TO .ellipsis := hs2 _ _ D.i1z.symm hz1
  refine wpAny_bind (wpAny_setField_rec hz2 (by simp) fun g3 hz3 hs3 => ?_)
  refine wpAny_bind ?_
  show wpAny _ _ (forIn (([Value.ref i1, Value.ref i2].drop 1).zipIdx 1) _ _ >>= _) _ _ _
  refine wpAny_bind ?_
  simp only [List.drop_succ_cons, List.drop_zero, List.zipIdx_cons, List.zipIdx_nil, List.forIn_cons, List.forIn_nil]
  refine wpAny_bind (wpAny_bind (oe_end hh (h2.keep (fun o e => hs3.extBut _ _ D.i2z (hs2 _ _ D.i12.symm (hs1.extBut _ _ D.i2z e))) (fun o e => hs3.extBut _ _ D.l2z (hs2 _ _ D.l2i1 (hs1.extBut _ _ D.l2z e)))) hy fun g4 hs4 => ?_))
  simp only [Option.isSome_none, Bool.false_eq_true, if_false]
  refine wpAny_pure (wpAny_pure (wpAny_bind (wpAny_rule ?_)))
  show wpAny _ _ (newExc (.type "StopIteration") [] >>= _) _ _ _
  refine wpAny_bind ?_
  simp only [newExc, newTuple]
  refine wpAny_bind (wpAny_newObj_type ?_ (by size_fits))
  refine wpAny_bind (m := firstArgMember _ _) (wpAny_of_eq (a := Value.none) (by first | rfl | (simp only [firstArgMember]; rfl)) ?_)
  refine wpAny_newObj_type ?_ (by size_fits)
  simp only [raiseNew]
  refine wpAny_bind (wpAny_handled ?_)
  first | rw [show A.in1.handled = none from hh] | rw [hh]
  refine wpAny_bind (wpAny_pure (wpAny_throw ?_))
  refine hE _ _ (fun c o c1 c2 c3 c4 e => Heap.get?_push_of_some _ (Heap.get?_push_of_some _ (hs4 _ _ c4 (hs3.extBut _ _ c1 (hs2 _ _ c3 (hs1.extBut _ _ c1 e)))))) ⟨_, Heap.get?_push_size _ rfl, rfl⟩
theorem sz_nextItem {k1 k2 : Bool} {z TI TO i1 i2 l1 l2 : Addr} {i : Nat} {xs ys : Array Value} {x y a b : Value} {Q : Option Value → Shared → Prop} (D : ZipApart z TI TO i1 i2 l1 l2)
    (hz : IsZipS s.heap z TI TO .none) (hTI : IsPair s.heap TI (.ref i1) (.ref i2)) (hTO : IsPair s.heap TO a b) (h1 : SIt s.heap k1 i1 l1 i xs) (h2 : SIt s.heap k2 i2 l2 i ys) (hx : xs[i]? = some x) (hy : ys[i]? = some y)
    (hQ : ∀ h', IsZipS h' z TI TO (rawInt s.heap.objs.size) → IsPair h' TO x y → SIt h' k1 i1 l1 (i + 1) xs → SIt h' k2 i2 l2 (i + 1) ys → IsPair h' s.heap.objs.size x y → h'.objs.size = s.heap.objs.size + 1 →
      (∀ c o, c ≠ z → c ≠ TO → c ≠ i1 → c ≠ i2 → s.heap.get? c = some o → h'.get? c = some o) → Q (some (.ref s.heap.objs.size)) { s with heap := h' }) : wpAny (model prog w) A (pyNext (.ref z)) Q E s := by
  have hT : s.TypeIs (.ref z) "zip" := ⟨_, hz, rfl⟩
  unfold pyNext
  exact wpAny_bind (wpAny_attempt (wpAny_callSpecial?_slot (name := Str.ofString "__next__") hT F.slot_zip_next
    (wpAny_call_entry F.slot_zip_next hT F.entry_zip_next (sz_item D hz hTI hTO h1 h2 hx hy fun h' a1 a2 a3 a4 a5 a6 a7 => wpAny_pure (hQ h' a1 a2 a3 a4 a5 a6 a7)) (F.args_zip_next_1 _))))
theorem sz_nextEnd {k1 k2 : Bool} {z TI TO i1 i2 l1 l2 : Addr} {i : Nat} {xs ys : Array Value} {a b : Value} {Q : Option Value → Shared → Prop} (hh : A.handled = none) (D : ZipApart z TI TO i1 i2 l1 l2)
    (hz : IsZipS s.heap z TI TO .none) (hTI : IsPair s.heap TI (.ref i1) (.ref i2)) (hTO : IsPair s.heap TO a b) (h1 : SIt s.heap k1 i1 l1 i xs) (h2 : SIt s.heap k2 i2 l2 i ys) (hx : xs[i]? = none) (hy : ys[i]? = none)
    (hQ : ∀ h', (∀ c o, c ≠ z → c ≠ TO → c ≠ i1 → c ≠ i2 → s.heap.get? c = some o → h'.get? c = some o) → Q none { s with heap := h' }) : wpAny (model prog w) A (pyNext (.ref z)) Q E s := by
  have hT : s.TypeIs (.ref z) "zip" := ⟨_, hz, rfl⟩
  unfold pyNext
  refine wpAny_bind (wpAny_attempt (wpAny_callSpecial?_slot (name := Str.ofString "__next__") hT F.slot_zip_next
    (wpAny_call_entry F.slot_zip_next hT F.entry_zip_next (sz_end hh D hz hTI hTO h1 h2 hx hy fun h' e hk he => ?_) (F.args_zip_next_1 _))))
  obtain ⟨o, ho, hc⟩ := he
  refine wpAny_bind (wpAny_isInstance (T := "StopIteration") (b := true) ⟨o, ho, hc⟩ isSubtype_stop ?_)
  exact wpAny_pure (hQ _ hk)
theorem sz_go {elts : List Expr} {x1} {pos : Pos} {z TI TO T : Addr} {Q : Unit → Shared → Prop} (hz : IsZipS s.heap z TI TO (rawInt T)) (hQ : ∀ h', IsZipS h' z TI TO .none → Heap.SameBut z s.heap h' → Q () { s with heap := h' }) :
    wpAny (model prog w) A (letOwnedTupleGo (.Tuple elts x1 pos) (.ref z) (.ref T)) Q E s := by
  unfold letOwnedTupleGo
  refine wpAny_bind (wpAny_load hz ?_)
  show wpAny _ _ (if (["enumerate", "zip", "dict_itemiterator", "dict_reverseitemiterator", "odict_iterator", "itertools.zip_longest", "itertools.pairwise"].contains "zip" && (#[rawInt T, .bool false, .bool true, .ref TI, .ref TO] : Array Value)[0]? == some (rawInt T)) = true then _ else _) Q E s
  rw [if_pos (by simp)]
  refine wpAny_bind (wpAny_rule ?_)
  show wpAny _ _ (setField (.ref z) 0 .none) Q E s
  exact wpAny_setField_rec hz (by simp) fun h' hz' hs' => hQ h' hz' hs'
theorem sz_iter {z TI TO : Addr} {f0 : Value} {Q : Value → Shared → Prop} (hz : IsZipS s.heap z TI TO f0) (h : Q (.ref z) s) : wpAny (model prog w) A (pyIter (.ref z)) Q E s := by
  have hT : s.TypeIs (.ref z) "zip" := ⟨_, hz, rfl⟩
  refine wpAny_pyIter_slot hT F.slot_zip_iter (wpAny_call_entry F.slot_zip_iter hT F.entry_zip_iter ?_ (F.args_zip_iter_1 _))
  show wpAny _ _ (ret (.ref z)) _ _ s
  exact wpAny_pure ⟨_, rfl, "zip", _, hT, F.slot_zip_next.lookup, h⟩
end
theorem typeCall_zipS (a b v : Value) : checkTypeCall "zip" ⟨[a, b], [(Str.ofString "strict", v)]⟩ = pure () := by kernel_rfl
theorem newCall_zipS (a b v : Value) : checkBuiltinCall "zip.__new__" ⟨[.type "zip", a, b], [(Str.ofString "strict", v)]⟩ = pure () := by kernel_rfl
theorem args_zipS (obj a b v : Value) : argsOk "object.__init__" ⟨[obj, a, b], [(Str.ofString "strict", v)]⟩ := by unfold argsOk; kernel_rfl
abbrev szZ (h : Heap) (o1 o2 : Obj) : Heap := (gzO2 h o1 o2).push { cls := .type "zip", data := .fields #[.none, .bool false, .bool true, .ref ((h.push o1).push o2).objs.size, .ref (gzT2 h o1 o2).objs.size] }
theorem meets_zipS {v1 v2 : Value} {o1 o2 : Obj} {H1 H2 : Heap → Prop} (B1 : Begins v1 o1 H1) (B2 : Begins v2 o2 H2) :
    Meets (Builtin.«zip.__new__» ⟨[.type "zip", v1, v2], [(Str.ofString "strict", .bool true)]⟩) (fun _ R s => (H1 s.heap ∧ H2 s.heap) ∧ R (.ok (.ret (.ref (gzO2 s.heap o1 o2).objs.size))) { s with heap := szZ s.heap o1 o2 }) :=
  .of_wp fun prog w A R s h => by
    obtain ⟨hp, g, d, tk, os⟩ := s
    obtain ⟨⟨h1, h2⟩, h⟩ := h
    have hsub := sub_zip
    have e2 : (Str.ofString "strict" != ("strict" : Str)) = false := by decide +kernel
    have q1 : ∀ {A' : Around} {E : Value → Shared → Prop} {Q : Value → Shared → Prop}, Q (.ref hp.objs.size) ⟨(hp.push o1), g, d, tk, os⟩ → wpAny (model prog w) A' (pyIter v1) Q E ⟨hp, g, d, tk, os⟩ :=
      fun q => B1.iter prog w _ _ ⟨hp, g, d, tk, os⟩ _ h1 q
    have q2 : ∀ {A' : Around} {E : Value → Shared → Prop} {Q : Value → Shared → Prop}, Q (.ref (hp.push o1).objs.size) ⟨((hp.push o1).push o2), g, d, tk, os⟩ → wpAny (model prog w) A' (pyIter v2) Q E ⟨(hp.push o1), g, d, tk, os⟩ :=
      fun q => B2.iter prog w _ _ ⟨(hp.push o1), g, d, tk, os⟩ _ (B2.keeps _ _ h2 fun b o' e => Heap.get?_push_of_some _ e) q
    wp_walk using q1, q2
    exact ⟨_, rfl, h⟩
section
variable {prog : Program} {w : World} {A : Around} {E : Value → Shared → Prop} {s : Shared}
theorem zipS_begins {v1 v2 : Value} {o1 o2 : Obj} {H1 H2 : Heap → Prop} {Q : Value → Shared → Prop} (B1 : Begins v1 o1 H1) (B2 : Begins v2 o2 H2) (h1 : H1 s.heap) (h2 : H2 s.heap)
    (h : ∀ h', IsZipS h' (s.heap.objs.size + 4) (s.heap.objs.size + 2) (s.heap.objs.size + 3) .none → IsPair h' (s.heap.objs.size + 2) (.ref s.heap.objs.size) (.ref (s.heap.objs.size + 1)) →
      IsPair h' (s.heap.objs.size + 3) .none .none → h'.get? s.heap.objs.size = some o1 → h'.get? (s.heap.objs.size + 1) = some o2 → h'.objs.size = s.heap.objs.size + 5 →
      (∀ c o, s.heap.get? c = some o → h'.get? c = some o) → Q (.ref (s.heap.objs.size + 4)) { s with heap := h' }) :
    wpAny (model prog w) A (call (.type "zip") [v1, v2] [(Str.ofString "strict", .bool true)]) Q E s := by
  refine callType_newKw F.called_zip (by decide) (typeCall_zipS _ _ _) (newCall_zipS _ _ _) (fun obj => args_zipS obj _ _ _) F.entry_zip_new (meets_zipS B1 B2) ⟨⟨h1, h2⟩, ?_⟩
  have z1 : (s.heap.push o1).objs.size = s.heap.objs.size + 1 := by rw [Heap.size_push]
  have z2 : ((s.heap.push o1).push o2).objs.size = s.heap.objs.size + 2 := by rw [Heap.size_push, z1]
  have zT : (gzT2 s.heap o1 o2).objs.size = s.heap.objs.size + 3 := by rw [Heap.size_push, z2]
  have zO : (gzO2 s.heap o1 o2).objs.size = s.heap.objs.size + 4 := by rw [Heap.size_push, zT]
  have zZ : (szZ s.heap o1 o2).objs.size = s.heap.objs.size + 5 := by rw [Heap.size_push, zO]
  have gZ : (szZ s.heap o1 o2).get? (gzO2 s.heap o1 o2).objs.size = some { cls := .type "zip", data := .fields #[.none, .bool false, .bool true, .ref ((s.heap.push o1).push o2).objs.size, .ref (gzT2 s.heap o1 o2).objs.size] } := Heap.get?_push_size _ rfl
  have gO : (szZ s.heap o1 o2).get? (gzT2 s.heap o1 o2).objs.size = some { cls := .type "tuple", data := .seq #[.none, .none] } := Heap.get?_push_of_some _ (Heap.get?_push_size _ rfl)
  have gT : (szZ s.heap o1 o2).get? ((s.heap.push o1).push o2).objs.size = some { cls := .type "tuple", data := .seq #[.ref s.heap.objs.size, .ref (s.heap.push o1).objs.size] } := Heap.get?_push_of_some _ (Heap.get?_push_of_some _ (Heap.get?_push_size _ rfl))
  have g1 : (szZ s.heap o1 o2).get? s.heap.objs.size = some o1 := Heap.get?_push_of_some _ (Heap.get?_push_of_some _ (Heap.get?_push_of_some _ (Heap.get?_push_of_some _ (Heap.get?_push_size _ B1.free))))
  have g2 : (szZ s.heap o1 o2).get? (s.heap.push o1).objs.size = some o2 := Heap.get?_push_of_some _ (Heap.get?_push_of_some _ (Heap.get?_push_of_some _ (Heap.get?_push_size _ B2.free)))
  rw [zO, zT, z2] at gZ
  rw [zT] at gO
  rw [z2, z1] at gT
  rw [z1] at g2
  show _ ∧ _
  rw [zO]
  exact ⟨⟨_, gZ, rfl⟩, h _ gZ gT gO g1 g2 zZ fun c o e => Heap.get?_push_of_some _ (Heap.get?_push_of_some _ (Heap.get?_push_of_some _ (Heap.get?_push_of_some _ (Heap.get?_push_of_some _ e))))⟩
end
/-! ### the turns -/
def SqK (K : PySem.W.Frag) (H : Hp) (k : Bool) (a : Addr) (xs : List V) : Prop := match k with
  | true => SqT K H a xs
  | false => SqL K H a xs
def KI (h : Heap) (k : Bool) (it l : Addr) (i : Nat) : Prop := match k with
  | true => h.IsTupleIter it l i
  | false => h.IsListIter it l i
def ItS (K : PySem.W.Frag) (k1 k2 : Bool) (a b : Addr) : It :=
  ⟨fun i H => ∃ (xs ys : List V) (x y : V), SqK K H k1 a xs ∧ SqK K H k2 b ys ∧ xs[i]? = some x ∧ ys[i]? = some y,
    fun i H v H' => ∃ T x y, v = .ref T ∧ H T = none ∧ H' = upd H T (.tup [x, y]) ∧ (∀ xs, SqK K H k1 a xs → xs[i]? = some x) ∧ ∀ ys, SqK K H k2 b ys → ys[i]? = some y,
    fun i H => ∃ xs ys : List V, SqK K H k1 a xs ∧ SqK K H k2 b ys ∧ xs.length ≤ i ∧ ys.length ≤ i⟩
theorem KI.get {h : Heap} {k : Bool} {it l : Addr} {i : Nat} (x : KI h k it l i) : ∃ o, h.get? it = some o ∧ ∀ v, o.data ≠ .cell v := by
  cases k with
  | true =>
    obtain ⟨o, e1, _, d1⟩ := x
    exact ⟨o, e1, fun v q => by rw [d1] at q; cases q⟩
  | false =>
    obtain ⟨o, e1, _, d1⟩ := x
    exact ⟨o, e1, fun v q => by rw [d1] at q; cases q⟩
theorem KI.at {h h' : Heap} {k : Bool} {it l : Addr} {i : Nat} (x : KI h k it l i) (f : ∀ o, h.get? it = some o → h'.get? it = some o) : KI h' k it l i := by
  cases k with
  | true => obtain ⟨o, e1, e2⟩ := x; exact ⟨o, f o e1, e2⟩
  | false => obtain ⟨o, e1, e2⟩ := x; exact ⟨o, f o e1, e2⟩
theorem SIt.ki {h : Heap} {k : Bool} {it l : Addr} {i : Nat} {xs : Array Value} (x : SIt h k it l i xs) : KI h k it l i := by
  cases k with
  | true => exact x.1
  | false => exact x.1
section
variable {X : Cx} {pins : List (Addr × Obj)} {σ : L2.St} {H : Hp} {s : Shared}
theorem sqk_its {k : Bool} {a : Addr} {xs : List V} (I : Inv X pins σ H s) (h : SqK X.K H k a xs) : ∃ its, Vals xs its ∧ ∀ {it : Addr} {i : Nat}, KI s.heap k it a i → SIt s.heap k it a i its.toArray := by
  cases k with
  | true =>
    obtain ⟨its, rv, p, _⟩ := I.tuple h
    exact ⟨its, rv, fun x => ⟨x, p⟩⟩
  | false =>
    obtain ⟨its, rv, p, _⟩ := I.list h
    exact ⟨its, rv, fun x => ⟨x, p.isList⟩⟩
theorem sqk_inj {k : Bool} {a : Addr} {xs ys : List V} (I : Inv X pins σ H s) (h : SqK X.K H k a xs) (h' : SqK X.K H k a ys) : xs = ys := by
  cases k with
  | true => exact I.tuple_inj h h'
  | false => exact I.list_inj h h'
end
theorem turn_zipS {P : Program} {w : World} {K : PySem.W.Frag} {elts : List Expr} {kk : Nat} {tpos : Pos} {k1 k2 : Bool} {a b z TI TO i1 i2 : Addr} (D : ZipApart z TI TO i1 i2 a b) :
    Turn P w K (.Tuple elts kk tpos) (ItS K k1 k2 a b) [z, TI, TO, i1, i2] z (fun i h => IsZipS h z TI TO .none ∧ IsPair h TI (.ref i1) (.ref i2) ∧ (∃ x y, IsPair h TO x y) ∧ KI h k1 i1 a i ∧ KI h k2 i2 b i) where
  mem := by simp
  obj := fun i h st c hc => by
    obtain ⟨hz, hTI, ⟨x, y, hTO⟩, h1, h2⟩ := st
    obtain ⟨o1, e1, d1⟩ := h1.get
    obtain ⟨o2, e2, d2⟩ := h2.get
    have e' : c = z ∨ c = TI ∨ c = TO ∨ c = i1 ∨ c = i2 := by simpa using hc
    rcases e' with q | q | q | q | q
    · rw [q]; exact ⟨_, hz, fun v q => nomatch q⟩
    · rw [q]; exact ⟨_, hTI, fun v q => nomatch q⟩
    · rw [q]; exact ⟨_, hTO, fun v q => nomatch q⟩
    · rw [q]; exact ⟨o1, e1, d1⟩
    · rw [q]; exact ⟨o2, e2, d2⟩
  keep := fun i h h' st k => by
    obtain ⟨hz, hTI, ⟨x, y, hTO⟩, h1, h2⟩ := st
    exact ⟨k z (by simp) _ hz, k TI (by simp) _ hTI, ⟨x, y, k TO (by simp) _ hTO⟩, h1.at fun o q => k i1 (by simp) o q, h2.at fun o q => k i2 (by simp) o q⟩
  item := by
    intro X hP hw hK hc i pins s σ H E I hf st hg
    subst hP hw hK
    obtain ⟨hz, hTI, ⟨x0, y0, hTO⟩, h1, h2⟩ := st
    obtain ⟨xs, ys, x, y, hqx, hqy, hx, hy⟩ := hg
    obtain ⟨its, rv, p⟩ := sqk_its I hqx
    obtain ⟨its2, rv2, p2⟩ := sqk_its I hqy
    obtain ⟨u, hu, ru⟩ := rv.get hx
    obtain ⟨u2, hu2, ru2⟩ := rv2.get hy
    have hzl : z < s.heap.objs.size := Heap.lt_size hz
    refine sz_nextItem D hz hTI hTO (p h1) (p2 h2) (x := u) (y := u2) (by simpa using hu) (by simpa using hu2) fun h' z' TO' h1' h2' hT hsz hk => ?_
    refine ⟨_, rfl, sz_go (s := { s with heap := h' }) z' fun h'' z'' sb => ?_⟩
    have hT2 : h''.get? s.heap.objs.size = some { cls := .type "tuple", data := .seq #[u, u2] } := (sb.2 _ (Nat.ne_of_gt hzl)).trans hT
    have new : ObjOk X.prog X.w (upd H s.heap.objs.size (.tup [x, y])) h'' s.heap.objs.size (.tup [x, y]) :=
      ⟨by show 2 ≤ sizeLine; decide, [u, u2], .cons ru (.cons ru2 .nil), ⟨_, hT2, rfl, _, rfl⟩⟩
    have I1 : Inv X pins σ (upd H s.heap.objs.size (.tup [x, y])) { s with heap := h'' } :=
      I.turnedNew (t' := s.toks) (ch := [z, TI, TO, i1, i2]) (fun c o hb q => (sb.2 c (fun q' => hb (by simp [q']))).trans (hk c o (fun q' => hb (by simp [q'])) (fun q' => hb (by simp [q'])) (fun q' => hb (by simp [q'])) (fun q' => hb (by simp [q'])) q)) hf (Nat.le_refl _) new
    refine ⟨.ref s.heap.objs.size, _, I1, rfl, ⟨_, x, y, rfl, I.hok.fresh (Nat.le_refl _), rfl, fun l hl => by rw [sqk_inj I hl hqx]; exact hx, fun l hl => by rw [sqk_inj I hl hqy]; exact hy⟩, ⟨z'', ?_, ⟨u, u2, ?_⟩, ?_, ?_⟩, fun c hcm => ?_⟩
    · exact (sb.2 _ D.TIz).trans (hk _ _ D.TIz D.TITO D.TIi1 D.TIi2 hTI)
    · exact (sb.2 _ D.TOz).trans TO'
    · exact h1'.ki.at fun o q => (sb.2 _ D.i1z).trans q
    · exact h2'.ki.at fun o q => (sb.2 _ D.i2z).trans q
    · have hlt : c < s.heap.objs.size := by
        have e' : c = z ∨ c = TI ∨ c = TO ∨ c = i1 ∨ c = i2 := by simpa using hcm
        rcases e' with q | q | q | q | q
        · rw [q]; exact hzl
        · rw [q]; exact Heap.lt_size hTI
        · rw [q]; exact Heap.lt_size hTO
        · rw [q]; obtain ⟨_, e1, _⟩ := h1.get; exact Heap.lt_size e1
        · rw [q]; obtain ⟨_, e2, _⟩ := h2.get; exact Heap.lt_size e2
      rw [upd_ne (Nat.ne_of_lt hlt)]
      exact (hf c hcm).1
  done := by
    intro X hP hw hK hc i pins s σ H E I hf st hg
    subst hP hw hK
    obtain ⟨hz, hTI, ⟨x0, y0, hTO⟩, h1, h2⟩ := st
    obtain ⟨xs, ys, hqx, hqy, he1, he2⟩ := hg
    obtain ⟨its, rv, p⟩ := sqk_its I hqx
    obtain ⟨its2, rv2, p2⟩ := sqk_its I hqy
    have l1 := rv.length
    have l2 := rv2.length
    exact sz_nextEnd (I.ok.hd hc) D hz hTI hTO (p h1) (p2 h2) (by simp; omega) (by simp; omega) fun h' hk => ⟨rfl, I.turnedL (t' := s.toks) (ch := [z, TI, TO, i1, i2]) (fun c o hb q => hk c o (fun q' => hb (by simp [q'])) (fun q' => hb (by simp [q'])) (fun q' => hb (by simp [q'])) (fun q' => hb (by simp [q'])) q) hf⟩
  self := fun A i s Q E st h => sz_iter st.1 h
theorem callWith_typeKw {M : Model} {A : Around} {E : Value → Shared → Prop} {s : Shared} {pos : Pos} {T : String} {args : List (Bool × Sem Value)} {keywords : List (Option Str × Sem Value)} {Q : Value → Shared → Prop}
    (hplain : args.any (·.1) = false) (hkw : keywords.any (·.1.isNone) = false)
    (h : wpAny M A (evalArgs (.type T) true args keywords) (fun a s₁ => wpAny M A (call (.type T) a.pos a.kw) Q E s₁) E s) : wpAny M A (callWith pos (.type T) [] args keywords) Q E s := by
  unfold callWith
  refine wpAny_bind (wpAny_holding (wpAny_mono h (fun a s₁ h₁ => wpAny_bind (wpAny_standAt ?_)) fun _ _ x => x))
  simp only [hplain, hkw, Bool.or_false]
  refine wpAny_bind (wpAny_pure ?_)
  exact wpAny_bind (wpAny_mono h₁ (fun r s₂ hr => wpAny_bind (wpAny_holding (wpAny_point (wpAny_pure hr)))) fun _ _ x => x)
def iZipS (K : PySem.W.Frag) (ta : TA) : TI := fun σ H R => ta σ H fun vs H1 => ∃ (k1 k2 : Bool) (a b : Addr) (xs ys : List V), vs = [.ref a, .ref b] ∧ SqK K H1 k1 a xs ∧ SqK K H1 k2 b ys ∧ R (ItS K k1 k2 a b) H1
theorem pi_zipS {X : Cx} {e e2 e3 : Expr} {ta : TA} {p pos tpos kp : Pos} {elts : List Expr} {kk : Nat} (hg : Gl X "zip") (hm : X.mg "zip" = none) (ha : PA X [e, e2] ta) (h3 : PE X e3 (tC (.bl true)))
    (hs : starEach [e, e2] X.env = (false, eval e X.env) :: starEach [e2] X.env := by rfl) (hpl : (backTo pos (starEach [e2] X.env)).any (·.1) = false := by rfl) :
    PI X (.Tuple elts kk tpos) (.Call (.Name "zip" p) [e, e2] [⟨some "strict", e3, kp⟩] pos) (iZipS X.K ta) := by
  refine ⟨fun pins s σ H R I h => ?_⟩
  refine wpAny_Call_Name_kw (ld_blt I hg hm PyProof.Rows.boot_zip ?_)
  have hpl2 : (backTo pos (starEach [e, e2] X.env)).any (·.1) = false := by
    rw [hs]
    show (false || (backTo pos (starEach [e2] X.env)).any (·.1)) = false
    rw [hpl]
    rfl
  refine callWith_typeKw hpl2 rfl ?_
  have hx := ha.run pos pins s σ H _ I h
  rw [hs] at hx ⊢
  refine evalArgs_kwB rfl (thn hx fun us s1 ⟨vs, H1, I1, r1, q1⟩ => ?_)
  refine kws_cons (thn (h3.run pins s1 σ H1 (fun v H2 => v = .bl true ∧ H2 = H1) I1 ⟨rfl, rfl⟩) fun u3 s2 q3 => kws_nil ?_)
  obtain ⟨v3, H2, I2, r3, ev, eh⟩ := q3
  subst ev
  subst eh
  cases (show u3 = Value.bool true from r3)
  obtain ⟨k1, k2, a, b, xs, ys, ex, hqx, hqy, q⟩ := q1
  subst ex
  cases r1 with
  | cons r rr =>
    cases rr with
    | cons r' rr =>
      cases rr
      cases r
      cases r'
      have fresh5 : ∀ c, c ∈ [s2.heap.objs.size + 4, s2.heap.objs.size + 2, s2.heap.objs.size + 3, s2.heap.objs.size, s2.heap.objs.size + 1] → FpOk X pins H2 c := fun c hcm => by
        have e' : c = s2.heap.objs.size + 4 ∨ c = s2.heap.objs.size + 2 ∨ c = s2.heap.objs.size + 3 ∨ c = s2.heap.objs.size ∨ c = s2.heap.objs.size + 1 := by simpa using hcm
        have hle : s2.heap.objs.size ≤ c := by omega
        exact I2.fpOk hle (I2.hok.fresh hle)
      cases k1 with
      | true =>
        cases k2 with
        | true =>
          obtain ⟨i1, v1, p1, _⟩ := I2.tuple hqx
          obtain ⟨o1, ho1, _⟩ := id p1
          have l1 := Heap.lt_size ho1
          have B1 := begins_tuple a i1.toArray
          have w1 : s2.heap.IsTuple a i1.toArray := p1
          obtain ⟨i2, v2, p2, _⟩ := I2.tuple hqy
          obtain ⟨o2, ho2, _⟩ := id p2
          have l2 := Heap.lt_size ho2
          have B2 := begins_tuple b i2.toArray
          have w2 : s2.heap.IsTuple b i2.toArray := p2
          refine zipS_begins B1 B2 w1 w2 fun h' hz hTI hTO g1 g2 hsz hk => sz_iter hz ?_
          exact ⟨s2.heap.objs.size + 4, [s2.heap.objs.size + 4, s2.heap.objs.size + 2, s2.heap.objs.size + 3, s2.heap.objs.size, s2.heap.objs.size + 1], _, _, H2, rfl, I2.kept (t' := s2.toks) hk, turn_zipS (k1 := true) (k2 := true) (PySem.W.ktu_apart s2.heap.objs.size a b l1 l2), ⟨hz, hTI, ⟨_, _, hTO⟩, (show h'.IsTupleIter s2.heap.objs.size a 0 from ⟨_, g1, rfl, rfl⟩), (show h'.IsTupleIter (s2.heap.objs.size + 1) b 0 from ⟨_, g2, rfl, rfl⟩)⟩, fresh5, q⟩
        | false =>
          obtain ⟨i1, v1, p1, _⟩ := I2.tuple hqx
          obtain ⟨o1, ho1, _⟩ := id p1
          have l1 := Heap.lt_size ho1
          have B1 := begins_tuple a i1.toArray
          have w1 : s2.heap.IsTuple a i1.toArray := p1
          obtain ⟨i2, v2, p2, _⟩ := I2.list hqy
          have l2 := p2.lt
          have B2 := begins_list b i2.toArray
          have w2 := p2.isList
          refine zipS_begins B1 B2 w1 w2 fun h' hz hTI hTO g1 g2 hsz hk => sz_iter hz ?_
          exact ⟨s2.heap.objs.size + 4, [s2.heap.objs.size + 4, s2.heap.objs.size + 2, s2.heap.objs.size + 3, s2.heap.objs.size, s2.heap.objs.size + 1], _, _, H2, rfl, I2.kept (t' := s2.toks) hk, turn_zipS (k1 := true) (k2 := false) (PySem.W.ktu_apart s2.heap.objs.size a b l1 l2), ⟨hz, hTI, ⟨_, _, hTO⟩, (show h'.IsTupleIter s2.heap.objs.size a 0 from ⟨_, g1, rfl, rfl⟩), (show h'.IsListIter (s2.heap.objs.size + 1) b 0 from ⟨_, g2, rfl, rfl⟩)⟩, fresh5, q⟩
      | false =>
        cases k2 with
        | true =>
          obtain ⟨i1, v1, p1, _⟩ := I2.list hqx
          have l1 := p1.lt
          have B1 := begins_list a i1.toArray
          have w1 := p1.isList
          obtain ⟨i2, v2, p2, _⟩ := I2.tuple hqy
          obtain ⟨o2, ho2, _⟩ := id p2
          have l2 := Heap.lt_size ho2
          have B2 := begins_tuple b i2.toArray
          have w2 : s2.heap.IsTuple b i2.toArray := p2
          refine zipS_begins B1 B2 w1 w2 fun h' hz hTI hTO g1 g2 hsz hk => sz_iter hz ?_
          exact ⟨s2.heap.objs.size + 4, [s2.heap.objs.size + 4, s2.heap.objs.size + 2, s2.heap.objs.size + 3, s2.heap.objs.size, s2.heap.objs.size + 1], _, _, H2, rfl, I2.kept (t' := s2.toks) hk, turn_zipS (k1 := false) (k2 := true) (PySem.W.ktu_apart s2.heap.objs.size a b l1 l2), ⟨hz, hTI, ⟨_, _, hTO⟩, (show h'.IsListIter s2.heap.objs.size a 0 from ⟨_, g1, rfl, rfl⟩), (show h'.IsTupleIter (s2.heap.objs.size + 1) b 0 from ⟨_, g2, rfl, rfl⟩)⟩, fresh5, q⟩
        | false =>
          obtain ⟨i1, v1, p1, _⟩ := I2.list hqx
          have l1 := p1.lt
          have B1 := begins_list a i1.toArray
          have w1 := p1.isList
          obtain ⟨i2, v2, p2, _⟩ := I2.list hqy
          have l2 := p2.lt
          have B2 := begins_list b i2.toArray
          have w2 := p2.isList
          refine zipS_begins B1 B2 w1 w2 fun h' hz hTI hTO g1 g2 hsz hk => sz_iter hz ?_
          exact ⟨s2.heap.objs.size + 4, [s2.heap.objs.size + 4, s2.heap.objs.size + 2, s2.heap.objs.size + 3, s2.heap.objs.size, s2.heap.objs.size + 1], _, _, H2, rfl, I2.kept (t' := s2.toks) hk, turn_zipS (k1 := false) (k2 := false) (PySem.W.ktu_apart s2.heap.objs.size a b l1 l2), ⟨hz, hTI, ⟨_, _, hTO⟩, (show h'.IsListIter s2.heap.objs.size a 0 from ⟨_, g1, rfl, rfl⟩), (show h'.IsListIter (s2.heap.objs.size + 1) b 0 from ⟨_, g2, rfl, rfl⟩)⟩, fresh5, q⟩
/-- a walk over a strict zip -/
theorem walk_zipS {K : PySem.W.Frag} {k1 k2 : Bool} {a b : Addr} {xs ys : List V} (hl : xs.length = ys.length) : Walk (ItS K k1 k2 a b) xs.length (fun H => SqK K H k1 a xs ∧ SqK K H k2 b ys) (YPair (fun i => xs[i]?) (fun i => ys[i]?)) := by
  refine ⟨fun i _ hi q => ⟨xs, ys, xs[i], ys[i], q.1, q.2, by simp [hi], by simp [← hl, hi]⟩, fun _ q => ⟨xs, ys, q.1, q.2, Nat.le_refl _, by omega⟩, fun i H v H' _ q y => ?_⟩
  obtain ⟨T, x, y, h1, h2, h3, h4, h5⟩ := y
  exact ⟨T, x, y, h1, h2, h3, h4 xs q.1, h5 ys q.2⟩
end Bk
set_option Elab.async false
set_option linter.all false
set_option maxRecDepth 100000
set_option maxHeartbeats 4000000
/-! Bk21: trees by rows. -/
namespace Bk
open PySem PySem.Spec PyProof.Rows L2
abbrev Tr := List (Str × List Int)
def rowD (r : Str × List Int) : D := .tup [.str r.1, .tup (r.2.map D.int)]
def treeD (t : Tr) : D := .tup (t.map rowD)
def mkOf (w : Wd) (s : Str) : Option (Nat × Mk) := (tabFrom 0 w).find? fun e => decide (e.2.1 = s)
def dueOf (w : Wd) (e : Nat × Mk) : List Int := e.2.2.map fun s => kno w s
def standsAt (ks ns due : List Int) : Bool := decide (ns.length = due.length) && ((ns.all fun n => decide (0 ≤ n ∧ n < (ks.length : Nat))) && (ns.zip due).all fun p => decide (ks[p.1.toNat]? = some p.2))
def stands (w : Wd) (ks : List Int) (r : Str × List Int) : Bool := match mkOf w r.1 with
  | none => false
  | some e => standsAt ks r.2 (dueOf w e)
def kindAt (w : Wd) (s : Str) : Int := match mkOf w s with
  | none => 0
  | some e => (e.1 : Nat)
theorem nodup_sub2 {α : Type} [DecidableEq α] : ∀ (l m : List α), l.Nodup → (∀ x ∈ l, x ∈ m) → l.length ≤ m.length
  | [], _, _, _ => Nat.zero_le _
  | x :: l, m, h, hs => by
    have hn := List.nodup_cons.1 h
    have hx := hs x List.mem_cons_self
    have z := nodup_sub2 l (m.erase x) hn.2 fun y hy => (List.mem_erase_of_ne (fun e => hn.1 (by rw [← e]; exact hy))).2 (hs y (List.mem_cons_of_mem _ hy))
    rw [List.length_erase_of_mem hx] at z
    have : 0 < m.length := List.length_pos_of_mem hx
    rw [List.length_cons]
    omega
theorem TabOk.none {w : Wd} {H : Hp} {kvs : List (L2.Key × V)} {L : List (Nat × Mk)} {s : Str} (h : TabOk w H kvs L) (hn : (L.map fun e => e.2.1).Nodup) (hs : s ∉ L.map fun e => e.2.1) : valV kvs (.inr s) = none := by
  refine Classical.byContradiction fun z => ?_
  have key : ∀ t v, valV kvs (.inr t) = some v → (Sum.inr t : L2.Key) ∈ kvs.map Prod.fst := fun t v e => by
    unfold valV at e
    rw [Option.map_eq_some_iff] at e
    obtain ⟨kv, e1, _⟩ := e
    have e2 := List.find?_some e1
    have e3 := List.mem_of_find?_eq_some e1
    exact List.mem_map.2 ⟨kv, e3, of_decide_eq_true e2⟩
  have hz : ∃ v, valV kvs (.inr s) = some v := by
    cases e : valV kvs (.inr s) with
    | none => exact absurd e z
    | some v => exact ⟨v, rfl⟩
  obtain ⟨v, hv⟩ := hz
  have a := nodup_sub2 ((s :: L.map fun e => e.2.1).map Sum.inr) (kvs.map Prod.fst) (by
    have nd : (s :: L.map fun e => e.2.1).Nodup := List.nodup_cons.2 ⟨hs, hn⟩
    exact List.Pairwise.map (R := (· ≠ ·)) (S := (· ≠ ·)) Sum.inr (fun x y hxy e => hxy (Sum.inr.inj e)) nd) fun x hx => by
      obtain ⟨t, ht, rfl⟩ := List.mem_map.1 hx
      rcases List.mem_cons.1 ht with rfl | ht
      · exact key _ _ hv
      · obtain ⟨e, he, rfl⟩ := List.mem_map.1 ht
        obtain ⟨p, t, q, _⟩ := h.2 e he
        exact key _ _ q
  have b := h.1
  simp only [List.length_map, List.length_cons] at a
  omega
theorem mkOf_some {w : Wd} {s : Str} {e : Nat × Mk} (h : mkOf w s = some e) : e ∈ tabFrom 0 w ∧ e.2.1 = s := ⟨List.mem_of_find?_eq_some h, of_decide_eq_true (List.find?_some (p := fun e : Nat × Mk => decide (e.2.1 = s)) h)⟩
theorem mkOf_none {w : Wd} {s : Str} (h : mkOf w s = none) : s ∉ (tabFrom 0 w).map fun e => e.2.1 := fun z => by
  obtain ⟨e, he, rfl⟩ := List.mem_map.1 z
  exact List.find?_eq_none.1 h e he (decide_eq_true rfl)
theorem dueOf_vals (w : Wd) (e : Nat × Mk) : (e.2.2.map fun s => V.int (kno w s)) = (dueOf w e).map V.int := map_kno w e.2.2
/-- a tree within bounds -/
structure TrB (t : Tr) : Prop where
  many : t.length ≤ 500
  row : ∀ r ∈ t, TextOk r.1 ∧ r.2.length ≤ 500
/-! told and due -/
/-- what both tell: a tuple of a word, or of a word and a number -/
def ToldT (H : Hp) (o : Option Nat) (p : Addr) : Prop := match o with
  | none => H p = some (.tup [.str "let by"])
  | some n => H p = some (.tup [.str "refused", .int (n : Nat)])
theorem ToldT.ex {H H' : Hp} {o : Option Nat} {p : Addr} (e : Ex H H') (h : ToldT H o p) : ToldT H' o p := by
  cases o with
  | none => exact e _ _ h
  | some n => exact e _ _ h
theorem dpok_int {K : PySem.W.Frag} {H : Hp} {n : Int} {k : Nat} : DpOk K H (.int n) k := ⟨.int n, .int n, rfl, Nat.zero_le _⟩
theorem dpok_ints {K : PySem.W.Frag} {H : Hp} {ns : List Int} {k : Nat} : ∀ x ∈ ns.map V.int, DpOk K H x k := fun x hx => by
  obtain ⟨n, _, rfl⟩ := List.mem_map.1 hx
  exact dpok_int
end Bk
set_option Elab.async false
set_option linter.all false
set_option maxRecDepth 100000
set_option maxHeartbeats 4000000
/-! Bk22: trees drawn. -/
namespace Bk
open PySem PySem.Spec PyProof.Rows L2
theorem inV_ints (n : Int) : ∀ ks : List Int, inV (.int n) (ks.map V.int) = decide (n ∈ ks)
  | [] => rfl
  | k :: ks => by
    show (eqV (.int k) (.int n) || inV (.int n) (ks.map V.int)) = _
    rw [inV_ints n ks]
    show ((k == n) || decide (n ∈ ks)) = decide (n ∈ k :: ks)
    by_cases c : k = n
    · subst c
      simp
    · have e : (k == n) = false := by simpa using c
      rw [e, Bool.false_or]
      have : n ≠ k := fun z => c z.symm
      simp [this]
theorem flat_ints : ∀ ks : List Int, (ks.map V.int).all flatV = true
  | [] => rfl
  | k :: ks => by
    rw [List.map_cons, List.all_cons, flat_ints ks]
    rfl
def goTr (w : Wd) : List Int → Tr → Bool
  | _, [] => true
  | ks, r :: t => stands w ks r && goTr w (ks ++ [kindAt w r.1]) t
def kindsT (w : Wd) (t : Tr) : List Int := t.map fun r => kindAt w r.1
theorem goTr_app {w : Wd} {r : Str × List Int} : ∀ {t : Tr} {ks : List Int}, goTr w ks (t ++ [r]) = (goTr w ks t && stands w (ks ++ kindsT w t) r)
  | [], ks => by
    show (stands w ks r && true) = (true && stands w (ks ++ []) r)
    rw [List.append_nil, Bool.and_true, Bool.true_and]
  | q :: t, ks => by
    show (stands w ks q && goTr w (ks ++ [kindAt w q.1]) (t ++ [r])) = ((stands w ks q && goTr w (ks ++ [kindAt w q.1]) t) && stands w (ks ++ kindsT w (q :: t)) r)
    rw [goTr_app, Bool.and_assoc]
    congr 3
    show _ = ks ++ (kindAt w q.1 :: kindsT w t)
    rw [List.append_assoc]
    rfl
theorem mkOf_mem {w : Wd} {e : Nat × Mk} (hn : ((tabFrom 0 w).map fun e => e.2.1).Nodup) (he : e ∈ tabFrom 0 w) : mkOf w e.2.1 = some e := by
  cases c : mkOf w e.2.1 with
  | none => exact absurd (List.mem_map.2 ⟨e, he, rfl⟩) (mkOf_none c)
  | some f =>
    obtain ⟨h1, h2⟩ := mkOf_some c
    obtain ⟨i, hi⟩ := List.mem_iff_getElem?.1 he
    obtain ⟨j, hj⟩ := List.mem_iff_getElem?.1 h1
    obtain ⟨i1, i2⟩ := List.getElem?_eq_some_iff.1 hi
    obtain ⟨j1, j2⟩ := List.getElem?_eq_some_iff.1 hj
    have z := List.pairwise_iff_getElem.1 hn
    by_cases e1 : i = j
    · subst e1
      rw [hi] at hj
      cases hj
      rfl
    · exfalso
      rcases Nat.lt_or_gt_of_ne e1 with l | l
      · refine z i j (by rw [List.length_map]; exact i1) (by rw [List.length_map]; exact j1) l ?_
        rw [List.getElem_map, List.getElem_map, i2, j2, h2]
      · refine z j i (by rw [List.length_map]; exact j1) (by rw [List.length_map]; exact i1) l ?_
        rw [List.getElem_map, List.getElem_map, i2, j2, h2]
theorem row_hard (r : Str × List Int) : (rowD r).hard = true := by
  show D.hards [.str r.1, .tup (r.2.map D.int)] = true
  have := ints_hard r.2
  simp only [D.hards, D.hard, this, Bool.and_self]
theorem rows_hard : ∀ t : Tr, D.hards (t.map rowD) = true
  | [] => rfl
  | r :: t => by
    show (D.hard (rowD r) && D.hards (t.map rowD)) = true
    rw [row_hard, rows_hard t]
    rfl
theorem tree_hard (t : Tr) : (treeD t).hard = true := by
  show D.hards (t.map rowD) = true
  exact rows_hard t
structure TreeSt (p R Kd Sz : Addr) (w : Wd) (H H1 : Hp) (t : Tr) (rvs : List V) (szs : List Int) : Prop where
  bx0 : Box H p
  bt : But p H H1
  bx : Box H1 p
  hR : H R = none
  hK : H Kd = none
  hS : H Sz = none
  RK : R ≠ Kd
  RS : R ≠ Sz
  KS : Kd ≠ Sz
  atR : H1 R = some (.lst rvs)
  atK : H1 Kd = some (.lst ((kindsT w t).map V.int))
  atS : H1 Sz = some (.lst (szs.map V.int))
  reps : Reps H1 (t.map rowD) rvs
  len : szs.length = t.length
  go : goTr w [] t = true
  row : ∀ r ∈ t, TextOk r.1 ∧ r.2.length ≤ 2
section
variable {p R Kd Sz : Addr} {w : Wd} {H H1 H2 : Hp} {t : Tr} {rvs : List V} {szs : List Int}
theorem TreeSt.np (s : TreeSt p R Kd Sz w H H1 t rvs szs) {a : Addr} (ha : H a = none) : a ≠ p := fun e => by
  obtain ⟨_, _, _, q⟩ := s.bx0
  rw [← e, ha] at q
  cases q
theorem TreeSt.free (s : TreeSt p R Kd Sz w H H1 t rvs szs) {a : Addr} (ha : H1 a = none) : H a = none := by
  cases e : H a with
  | none => rfl
  | some o =>
    by_cases z : a = p
    · subst z
      obtain ⟨_, _, _, q⟩ := s.bx
      rw [ha] at q
      cases q
    · rw [s.bt _ _ z e] at ha
      cases ha
theorem TreeSt.but (s : TreeSt p R Kd Sz w H H1 t rvs szs) (b : But p H1 H2) (hb : Box H2 p) : TreeSt p R Kd Sz w H H2 t rvs szs :=
  { s with bt := s.bt.trans b, bx := hb, atR := b _ _ (s.np s.hR) s.atR, atK := b _ _ (s.np s.hK) s.atK, atS := b _ _ (s.np s.hS) s.atS, reps := s.reps.tk (s.bx.tk b) (rows_hard t) }
theorem TreeSt.ex (s : TreeSt p R Kd Sz w H H1 t rvs szs) (e : Ex H1 H2) : TreeSt p R Kd Sz w H H2 t rvs szs := s.but (e.but p) (s.bx.ex e)
theorem TreeSt.app (s : TreeSt p R Kd Sz w H H1 t rvs szs) {r : Str × List Int} {v : V} {m : Int} (rv : Rep H1 (rowD r) v) (hs : stands w (kindsT w t) r = true) (ht : TextOk r.1) (hl : r.2.length ≤ 2) :
    TreeSt p R Kd Sz w H (upd (upd (upd H1 R (.lst (rvs ++ [v]))) Kd (.lst ((kindsT w t).map V.int ++ [.int (kindAt w r.1)]))) Sz (.lst (szs.map V.int ++ [.int m]))) (t ++ [r]) (rvs ++ [v]) (szs ++ [m]) := by
  have k1 : Tk H1 (upd H1 R (.lst (rvs ++ [v]))) := ((But.refl R H1).upd).tkl s.atR
  have aK : (upd H1 R (.lst (rvs ++ [v]))) Kd = some (.lst ((kindsT w t).map V.int)) := by rw [upd_ne (Ne.symm s.RK)]; exact s.atK
  have k2 : Tk _ (upd (upd H1 R (.lst (rvs ++ [v]))) Kd (.lst ((kindsT w t).map V.int ++ [.int (kindAt w r.1)]))) := ((But.refl Kd _).upd).tkl aK
  have aS : (upd (upd H1 R (.lst (rvs ++ [v]))) Kd (.lst ((kindsT w t).map V.int ++ [.int (kindAt w r.1)]))) Sz = some (.lst (szs.map V.int)) := by rw [upd_ne (Ne.symm s.KS), upd_ne (Ne.symm s.RS)]; exact s.atS
  have k3 : Tk _ (upd (upd (upd H1 R (.lst (rvs ++ [v]))) Kd (.lst ((kindsT w t).map V.int ++ [.int (kindAt w r.1)]))) Sz (.lst (szs.map V.int ++ [.int m]))) := ((But.refl Sz _).upd).tkl aS
  have k := k1.trans (k2.trans k3)
  refine ⟨s.bx0, ((s.bt.at_new s.hR).at_new s.hK).at_new s.hS, ((s.bx.at_upd (s.np s.hR)).at_upd (s.np s.hK)).at_upd (s.np s.hS), s.hR, s.hK, s.hS, s.RK, s.RS, s.KS, by rw [upd_ne s.RS, upd_ne s.RK, upd_same], ?_, by rw [upd_same, List.map_append]; rfl, ?_, by rw [List.length_append, List.length_append, s.len]; rfl, by rw [goTr_app, s.go, List.nil_append, hs]; rfl, fun q hq => ?_⟩
  · rw [upd_ne s.KS, upd_same]
    unfold kindsT
    rw [List.map_append, List.map_append]
    rfl
  · rw [List.map_append]
    exact (s.reps.tk k (rows_hard t)).append (by simp only [List.map, Reps]; exact ⟨v, [], rfl, rv.tk k (row_hard r), rfl⟩)
  · rcases List.mem_append.1 hq with hq | hq
    · exact s.row q hq
    · rw [List.mem_singleton.1 hq]
      exact ⟨ht, hl⟩
end
/-- a maker whose parts' kinds are there -/
def FitAt (w : Wd) (H : Hp) (ks : List Int) (x : V) : Prop := ∃ e, e ∈ tabFrom 0 w ∧ DueAt w H e x ∧ ∀ d ∈ dueOf w e, d ∈ ks
theorem FitAt.tk {w : Wd} {H H' : Hp} {ks : List Int} {x : V} (t : Tk H H') (h : FitAt w H ks x) : FitAt w H' ks x := by
  obtain ⟨e, a, b, c⟩ := h
  exact ⟨e, a, b.tk t, c⟩
/-! ### a tree spoilt -/
structure TrN (k : Nat) (t : Tr) : Prop where
  many : t.length ≤ 200 + k
  row : ∀ r ∈ t, TextOk r.1 ∧ r.2.length ≤ 2 + k
theorem TrN.bnd {k : Nat} {t : Tr} (h : TrN k t) (hk : k ≤ 100) : TrB t := ⟨by have := h.many; omega, fun r hr => by
  obtain ⟨a, b⟩ := h.row r hr
  exact ⟨a, by omega⟩⟩
structure RwSt (p R : Addr) (n m : Nat) (c : Addr → Prop) (H H1 : Hp) (rows : List V) : Prop where
  bx0 : Box H p
  bt : But p H H1
  bx : Box H1 p
  at_ : H1 R = some (.lst rows)
  hR : H R = none
  cR : ¬ c R
  fr : ∀ a, c a → H a = none
  ty : ∀ a, c a → ∃ (s : Str) (t : Addr) (ns : List Int), H1 a = some (.lst [.str s, .ref t]) ∧ TextOk s ∧ H1 t = some (.tup (ns.map V.int)) ∧ ns.length ≤ n
  rw : rows.length ≤ m ∧ ∀ x ∈ rows, ∃ b, x = .ref b ∧ c b
section
variable {p R : Addr} {n m : Nat} {c : Addr → Prop} {H H1 H2 : Hp} {rows : List V}
theorem RwSt.np (s : RwSt p R n m c H H1 rows) {a : Addr} (ha : H a = none) : a ≠ p := fun e => by
  obtain ⟨_, _, _, q⟩ := s.bx0
  rw [← e, ha] at q
  cases q
theorem RwSt.free (s : RwSt p R n m c H H1 rows) {a : Addr} (ha : H1 a = none) : H a = none := by
  cases e : H a with
  | none => rfl
  | some o =>
    by_cases z : a = p
    · subst z
      obtain ⟨_, _, _, q⟩ := s.bx
      rw [ha] at q
      cases q
    · rw [s.bt _ _ z e] at ha
      cases ha
theorem RwSt.but (s : RwSt p R n m c H H1 rows) (b : But p H1 H2) (hb : Box H2 p) : RwSt p R n m c H H2 rows :=
  ⟨s.bx0, s.bt.trans b, hb, b _ _ (s.np s.hR) s.at_, s.hR, s.cR, s.fr, fun a ha => by
    obtain ⟨x, t, ns, h1, h2, h3, h4⟩ := s.ty a ha
    exact ⟨x, t, ns, b _ _ (s.np (s.fr a ha)) h1, h2, s.bx.tk b _ _ h3, h4⟩, s.rw⟩
theorem RwSt.ex (s : RwSt p R n m c H H1 rows) (e : Ex H1 H2) : RwSt p R n m c H H2 rows := s.but (e.but p) (s.bx.ex e)
theorem RwSt.le (s : RwSt p R n m c H H1 rows) {n' m' : Nat} (h1 : n ≤ n') (h2 : m ≤ m') : RwSt p R n' m' c H H1 rows :=
  ⟨s.bx0, s.bt, s.bx, s.at_, s.hR, s.cR, s.fr, fun a ha => by
    obtain ⟨x, t, ns, h3, h4, h5, h6⟩ := s.ty a ha
    exact ⟨x, t, ns, h3, h4, h5, by omega⟩, Nat.le_trans s.rw.1 h2, s.rw.2⟩
theorem RwSt.set (s : RwSt p R n m c H H1 rows) {a t : Addr} {x : Str} {ns : List Int} (ha : c a) (hx : TextOk x) (ht : H1 t = some (.tup (ns.map V.int))) (hl : ns.length ≤ n) : RwSt p R n m c H (upd H1 a (.lst [.str x, .ref t])) rows := by
  obtain ⟨x0, t0, ns0, q, _⟩ := s.ty a ha
  have k : Tk H1 (upd H1 a (.lst [.str x, .ref t])) := ((But.refl a H1).upd).tkl q
  refine ⟨s.bx0, s.bt.at_new (s.fr a ha), s.bx.at_upd (s.np (s.fr a ha)), by rw [upd_ne (fun e => s.cR (by rw [e]; exact ha))]; exact s.at_, s.hR, s.cR, s.fr, fun b hb => ?_, s.rw⟩
  by_cases e : b = a
  · subst e
    exact ⟨x, t, ns, upd_same, hx, k _ _ ht, hl⟩
  · obtain ⟨y, u, ms, h1, h2, h3, h4⟩ := s.ty b hb
    exact ⟨y, u, ms, by rw [upd_ne e]; exact h1, h2, k _ _ h3, h4⟩
theorem RwSt.put (s : RwSt p R n m c H H1 rows) {m' : Nat} {rows' : List V} (h1 : rows'.length ≤ m') (h2 : ∀ x ∈ rows', ∃ b, x = .ref b ∧ c b) : RwSt p R n m' c H (upd H1 R (.lst rows')) rows' := by
  have k : Tk H1 (upd H1 R (.lst rows')) := ((But.refl R H1).upd).tkl s.at_
  exact ⟨s.bx0, s.bt.at_new s.hR, s.bx.at_upd (s.np s.hR), upd_same, s.hR, s.cR, s.fr, fun b hb => by
    obtain ⟨y, u, ms, h3, h4, h5, h6⟩ := s.ty b hb
    exact ⟨y, u, ms, by rw [upd_ne (fun e => s.cR (by rw [← e]; exact hb))]; exact h3, h4, k _ _ h5, h6⟩, h1, h2⟩
end
end Bk
set_option Elab.async false
set_option linter.all false
set_option maxRecDepth 100000
set_option maxHeartbeats 4000000
/-! Bk23: woods as texts. -/
namespace Bk
open PySem PySem.Spec PyProof.Rows L2
/-! ### what a text's rows write -/
/-- the kinds as they are read: a list of tuples, a list of makers in each -/
structure KdAt (H : Hp) (Kl : Addr) (ras : List Addr) (acc : Wd) : Prop where
  kl : ∃ vs, H Kl = some (.lst vs) ∧ vs.length = acc.length ∧ ∀ (i : Nat) (k : Str × List Mk) (m : Addr), acc[i]? = some k → ras[i]? = some m → ∃ a, vs[i]? = some (.ref a) ∧ H a = some (.tup [.str k.1, .ref m])
  rows : Rows H ras (acc.map Prod.snd)
  ne : Kl ∉ ras
section
variable {H H' : Hp} {Kl : Addr} {ras : List Addr} {acc : Wd}
theorem KdAt.ex (h : KdAt H Kl ras acc) (e : Ex H H') : KdAt H' Kl ras acc := by
  obtain ⟨vs, a, b, c⟩ := h.kl
  refine ⟨⟨vs, e _ _ a, b, fun i k m hk hm => ?_⟩, h.rows.keep e.tk fun a _ us q => e _ _ q, h.ne⟩
  obtain ⟨x, d1, d2⟩ := c i k m hk hm
  exact ⟨x, d1, e _ _ d2⟩
theorem KdAt.len (h : KdAt H Kl ras acc) : ras.length = acc.length := by rw [h.rows.len, List.length_map]
theorem KdAt.kind (h : KdAt H Kl ras acc) {vs : List V} {s : Str} {M a : Addr} (hk : H Kl = some (.lst vs)) (hM : H M = some (.lst [])) (hMn : M ∉ ras) (hMK : M ≠ Kl) (ha : H a = some (.tup [.str s, .ref M])) : KdAt (upd H Kl (.lst (vs ++ [.ref a]))) Kl (ras ++ [M]) (acc ++ [(s, [])]) := by
  obtain ⟨vs', b1, b2, b3⟩ := h.kl
  rw [hk] at b1
  cases b1
  have tk : Tk H (upd H Kl (.lst (vs ++ [.ref a]))) := ((But.refl Kl H).upd).tkl hk
  have rl := h.len
  refine ⟨⟨_, upd_same, by rw [List.length_append, List.length_append, b2]; rfl, fun i k m hi hm => ?_⟩, ⟨by rw [List.length_append, List.map_append, List.length_append, List.length_map, rl]; rfl, ?_, fun q x r hx hr => ?_⟩, fun z => ?_⟩
  · by_cases c : i < acc.length
    · rw [List.getElem?_append_left c] at hi
      rw [List.getElem?_append_left (by omega)] at hm
      obtain ⟨x, d1, d2⟩ := b3 i k m hi hm
      exact ⟨x, by rw [List.getElem?_append_left (by omega)]; exact d1, tk _ _ d2⟩
    · rw [List.getElem?_append_right (by omega)] at hi
      rw [List.getElem?_append_right (by omega)] at hm
      have ei : i = acc.length := by
        have := (List.getElem?_eq_some_iff.1 hi).1
        simp at this
        omega
      subst ei
      rw [Nat.sub_self] at hi
      rw [rl, Nat.sub_self] at hm
      cases hi
      cases hm
      exact ⟨a, by rw [List.getElem?_append_right (by omega), b2, Nat.sub_self]; rfl, tk _ _ ha⟩
  · rw [List.nodup_append]
    exact ⟨h.rows.nd, by simp, fun x hx y hy => by rw [List.mem_singleton.1 hy]; exact fun e => hMn (by rw [← e]; exact hx)⟩
  · rw [List.map_append] at hr
    by_cases c : q < acc.length
    · rw [List.getElem?_append_left (by omega)] at hx
      rw [List.getElem?_append_left (by rw [List.length_map]; exact c)] at hr
      obtain ⟨us, d1, d2⟩ := h.rows.at_ q x r hx hr
      have nx : x ≠ Kl := fun e => h.ne (by rw [← e]; exact List.mem_of_getElem? hx)
      exact ⟨us, by rw [upd_ne nx]; exact d1, d2.tk tk (mks_hard r)⟩
    · rw [List.getElem?_append_right (by omega)] at hx
      rw [List.getElem?_append_right (by rw [List.length_map]; omega)] at hr
      have eq : q = acc.length := by
        have := (List.getElem?_eq_some_iff.1 hx).1
        simp at this
        omega
      subst eq
      rw [rl, Nat.sub_self] at hx
      rw [List.length_map, Nat.sub_self] at hr
      cases hx
      cases hr
      exact ⟨[], by rw [upd_ne hMK]; exact hM, by simp only [List.map, Reps]⟩
  · rcases List.mem_append.1 z with z | z
    · exact h.ne z
    · exact hMK (List.mem_singleton.1 z).symm
/-- the last kind, and its list -/
theorem KdAt.last {acc0 : Wd} {k : Str × List Mk} (h : KdAt H Kl ras (acc0 ++ [k])) : ∃ vs a M us, H Kl = some (.lst vs) ∧ vs.length = acc0.length + 1 ∧ vs[acc0.length]? = some (.ref a) ∧ H a = some (.tup [.str k.1, .ref M]) ∧ ras[acc0.length]? = some M ∧ H M = some (.lst us) ∧ Reps H (k.2.map mkD) us := by
  obtain ⟨vs, b1, b2, b3⟩ := h.kl
  have rl := h.len
  rw [List.length_append, List.length_singleton] at rl b2
  have hk : (acc0 ++ [k])[acc0.length]? = some k := by rw [List.getElem?_append_right (Nat.le_refl _), Nat.sub_self]; rfl
  have hm := List.getElem?_eq_getElem (l := ras) (i := acc0.length) (by omega)
  obtain ⟨a, c1, c2⟩ := b3 _ _ _ hk hm
  obtain ⟨us, d1, d2⟩ := h.rows.at_ acc0.length _ k.2 hm (by rw [List.getElem?_map, hk]; rfl)
  exact ⟨vs, a, _, us, b1, b2, c1, c2, hm, d1, d2⟩
end
/-- what is read, within bounds -/
structure RdB (i : Nat) (acc : Wd) : Prop where
  wide : acc.length ≤ i
  name : ∀ k ∈ acc, TextOk k.1
  row : ∀ k ∈ acc, k.2.length ≤ i
  mkr : ∀ k ∈ acc, ∀ m ∈ k.2, TextOk m.1 ∧ m.2.length ≤ 2 ∧ ∀ s ∈ m.2, TextOk s
theorem RdB.bnd {i : Nat} {acc : Wd} (h : RdB i acc) (hi : i ≤ 500) : WdB acc := ⟨by have := h.wide; omega, h.name, fun k hk => by have := h.row k hk; omega, fun k hk m hm => by
  obtain ⟨a, b, c⟩ := h.mkr k hk m hm
  exact ⟨a, by omega, c⟩⟩
theorem RdB.kind {i : Nat} {acc : Wd} {s : Str} (h : RdB i acc) (hs : isName s = true) : RdB (i + 1) (acc ++ [(s, [])]) := by
  refine ⟨by rw [List.length_append, List.length_singleton]; have := h.wide; omega, fun k hk => ?_, fun k hk => ?_, fun k hk m hm => ?_⟩
  · rcases List.mem_append.1 hk with hk | hk
    · exact h.name k hk
    · rw [List.mem_singleton.1 hk]; exact isName_text hs
  · rcases List.mem_append.1 hk with hk | hk
    · have := h.row k hk; omega
    · rw [List.mem_singleton.1 hk]; exact Nat.zero_le _
  · rcases List.mem_append.1 hk with hk | hk
    · exact h.mkr k hk m hm
    · rw [List.mem_singleton.1 hk] at hm; cases hm
theorem reps_at {α : Type} {H : Hp} {f : α → D} : ∀ {as : List α} {vs : List V}, vs.length = as.length → (∀ (j : Nat) (v : V), vs[j]? = some v → ∃ a, as[j]? = some a ∧ Rep H (f a) v) → Reps H (as.map f) vs
  | [], [], _, _ => by simp only [List.map, Reps]
  | [], _ :: _, h, _ => by cases h
  | _ :: _, [], h, _ => by cases h
  | a :: as, v :: vs, h, h2 => by
    obtain ⟨a', e1, r⟩ := h2 0 v rfl
    cases e1
    have z := reps_at (f := f) (H := H) (as := as) (vs := vs) (Nat.succ.inj h) fun j u hj => h2 (j + 1) u hj
    simp only [List.map, Reps]
    exact ⟨v, vs, rfl, r, z⟩
theorem joinL_len {S : List Nat} : ∀ (ps : List (List Nat)), (TL.joinL S ps).length ≤ (ps.map (·.length + S.length)).sum
  | [] => Nat.zero_le _
  | [p] => by
    show p.length ≤ _
    simp
  | p :: q :: ps => by
    have z := joinL_len (S := S) (q :: ps)
    show (p ++ (S ++ TL.joinL S (q :: ps))).length ≤ _
    rw [List.length_append, List.length_append, List.map_cons, List.sum_cons]
    omega
theorem join_chars {y : Str} {ps : List Str} : (Txt.join y ps).cps.toList = TL.joinL (TL.tl y) (ps.map TL.tl) := by
  have e1 : ∀ s : Str, SX.S (TL.tl s) = s := fun s => by
    apply TL.ext_tl
    show (SX.S (TL.tl s)).cps.toList = s.cps.toList
    unfold SX.S
    simp [TL.tl]
  have e2 : ps = (ps.map TL.tl).map SX.S := by
    rw [List.map_map]
    conv => lhs; rw [← List.map_id ps]
    exact List.map_congr_left fun s _ => (e1 s).symm
  have e3 := SX.join_S (TL.tl y) (ps.map TL.tl)
  rw [← e2, e1 y] at e3
  rw [e3]
theorem join_len {y : Str} {ps : List Str} {b : Nat} (h : ∀ s ∈ ps, s.length ≤ b) : (Txt.join y ps).length ≤ ps.length * (b + y.length) := by
  rw [str_len, join_chars]
  refine Nat.le_trans (joinL_len _) ?_
  rw [List.map_map]
  have e : ((ps.map ((fun p : List Nat => p.length + (TL.tl y).length) ∘ TL.tl)).sum) ≤ ps.length * (b + y.length) := by
    induction ps with
    | nil => exact Nat.zero_le _
    | cons p ps ih =>
      have a := h p List.mem_cons_self
      have z := ih fun s hs => h s (List.mem_cons_of_mem _ hs)
      rw [List.map_cons, List.sum_cons, List.length_cons, Nat.succ_mul]
      have e1 : ((fun p : List Nat => p.length + (TL.tl y).length) ∘ TL.tl) p = p.length + y.length := by
        show p.cps.toList.length + y.cps.toList.length = _
        rw [← str_len, ← str_len]
      rw [e1]
      omega
  exact e
/-- a row as it may be: no line feed, signs, so long -/
structure RowOk (b : Nat) (s : Str) : Prop where
  len : s.length ≤ b
  sign : ∀ c ∈ s.cps.toList, c < 0x110000
  line : 10 ∉ s.cps.toList
/-- the parts are one more than the separators -/
theorem spl_count (s : Nat) : ∀ (l acc : List Nat), (TL.spl [s] 0 acc l).length = l.count s + 1
  | [], acc => by rw [TL.spl_nil]; rfl
  | c :: l, acc => by
    by_cases h : c = s
    · subst h
      rw [TL.spl_hit (by show List.take 1 (c :: l) == [c]; simp)]
      show (TL.spl [c] 0 [] l).length + 1 = _
      rw [spl_count c l [], List.count_cons_self]
    · have h' : TL.pre [s] (c :: l) = false := by
        show (List.take 1 (c :: l) == [s]) = false
        simp [h]
      rw [TL.spl_miss h', spl_count s l (acc ++ [c]), List.count_cons_of_ne h]
theorem split_count {x y : Str} {s : Nat} (hy : y = ⟨#[s]⟩) (hs : s < 256) : (Txt.split x y).length = x.cps.toList.count s + 1 := by
  have e : TL.tl y = [s] := by subst hy; rfl
  have z := TL.split_spl x y (by rw [e]; exact List.cons_ne_nil _ _) (TL.kind_ok (by subst hy; simp [hs]))
  rw [e] at z
  have w := congrArg List.length z
  rw [List.length_map, spl_count] at w
  exact w
end Bk
set_option Elab.async false
set_option linter.all false
set_option maxRecDepth 100000
set_option maxHeartbeats 4000000
/-! Bk24: replace of written texts behind a token. -/
namespace Bk
open PySem PySem.Spec PyProof.Rows L2
theorem count_no {s : Str} (h : 10 ∉ s.cps.toList) : s.cps.toList.count 10 = 0 := List.count_eq_zero.2 h
/-- a word that may be put in -/
structure WordOk (b : Nat) (s : Str) : Prop where
  len : s.length ≤ b
  sign : ∀ c ∈ s.cps.toList, c < 0x110000
  few : s.cps.toList.count 10 ≤ 10
/-- a row that may stand among the others: long, some line feeds -/
structure NewRow (b : Nat) (s : Str) : Prop where
  len : s.length ≤ b
  sign : ∀ c ∈ s.cps.toList, c < 0x110000
  few : s.cps.toList.count 10 ≤ 20
theorem RowOk.new {b b' : Nat} {s : Str} (h : RowOk b s) (hb : b ≤ b') : NewRow b' s := ⟨Nat.le_trans h.len hb, h.sign, by rw [count_no h.line]; exact Nat.zero_le _⟩
theorem WordOk.new {L : Nat} {s : Str} (h : WordOk (L + 10) s) : NewRow (3 * L + 20) s := ⟨by have := h.len; omega, h.sign, by have := h.few; omega⟩
theorem app3 (a b : Str) : ((a ++ (" " : Str)) ++ b).cps.toList = a.cps.toList ++ [32] ++ b.cps.toList := by
  show ((a.cps ++ (" " : Str).cps) ++ b.cps).toList = _
  have e : (" " : Str).cps.toList = [32] := by decide +kernel
  rw [Array.toList_append, Array.toList_append, e]
theorem WordOk.two {L : Nat} {s : Str} (h : WordOk (L + 10) s) (hL : 1 ≤ L) : NewRow (3 * L + 20) ((s ++ (" " : Str)) ++ s) := by
  have hl := h.len
  have hf := h.few
  refine ⟨?_, fun c hc => ?_, ?_⟩
  · rw [str_len, app3, List.length_append, List.length_append, List.length_singleton, ← str_len]
    omega
  · rw [app3] at hc
    rcases List.mem_append.1 hc with hc | hc
    · rcases List.mem_append.1 hc with hc | hc
      · exact h.sign c hc
      · rw [List.mem_singleton.1 hc]; decide
    · exact h.sign c hc
  · rw [app3, List.count_append, List.count_append]
    have : List.count 10 [32] = 0 := by decide
    omega
theorem map_erase {α β : Type} (f : α → β) : ∀ (l : List α) (i : Nat), (l.map f).eraseIdx i = (l.eraseIdx i).map f
  | [], _ => rfl
  | _ :: _, 0 => rfl
  | a :: l, i + 1 => by
    show f a :: (l.map f).eraseIdx i = f a :: (l.eraseIdx i).map f
    rw [map_erase f l i]
end Bk
set_option Elab.async false
set_option linter.all false
set_option maxRecDepth 100000
set_option maxHeartbeats 4000000
/-! Bk25: a wood that is looked at and let by; what a text of a wood comes to. -/
namespace Bk
open PySem PySem.Spec PyProof.Rows L2
end Bk
set_option Elab.async false
set_option linter.all false
set_option maxRecDepth 100000
set_option maxHeartbeats 4000000
/-! Bk26: zip(a, b) of lists and tuples of one length, of whichever sort each. -/
namespace Bk
open PySem PySem.Spec PyProof.Rows L2
section
variable {prog : Program} {w : World} {A : Around} {E : Value → Shared → Prop} {s : Shared}
theorem nz_item {k1 k2 : Bool} {z TI TO i1 i2 l1 l2 : Addr} {i : Nat} {xs ys : Array Value} {x y a b : Value} {Q : Value → Shared → Prop} (D : ZipApart z TI TO i1 i2 l1 l2)
    (hz : IsZip s.heap z TI TO .none) (hTI : IsPair s.heap TI (.ref i1) (.ref i2)) (hTO : IsPair s.heap TO a b) (h1 : SIt s.heap k1 i1 l1 i xs) (h2 : SIt s.heap k2 i2 l2 i ys) (hx : xs[i]? = some x) (hy : ys[i]? = some y)
    (hQ : ∀ h', IsZip h' z TI TO (rawInt s.heap.objs.size) → IsPair h' TO x y → SIt h' k1 i1 l1 (i + 1) xs → SIt h' k2 i2 l2 (i + 1) ys → IsPair h' s.heap.objs.size x y → h'.objs.size = s.heap.objs.size + 1 →
      (∀ c o, c ≠ z → c ≠ TO → c ≠ i1 → c ≠ i2 → s.heap.get? c = some o → h'.get? c = some o) → Q (.ref s.heap.objs.size) { s with heap := h' }) :
    wpAny (model prog w) A (Builtin.«zip.__next__» ⟨[.ref z], []⟩) (fun fin s' => ∃ v, fin = .done (.ret v) ∧ Q v s') E s := by
  show wpAny _ _ (field (.ref z) 2 >>= _) _ _ _
  refine wpAny_bind (wpAny_field hz rfl (x := .bool false) rfl ?_)
  show wpAny _ _ (field (.ref z) 3 >>= _) _ _ _
  refine wpAny_bind (wpAny_field hz rfl (x := .ref TI) rfl ?_)
  refine wpAny_bind (wpAny_seqItems hTI rfl ?_)
  show wpAny _ _ (Builtin.SmallTypes.ownedTupleIsFree (.ref z) >>= _) _ _ _
  refine wpAny_bind ?_
  unfold Builtin.SmallTypes.ownedTupleIsFree
  refine wpAny_bind (wpAny_field hz rfl (x := .none) rfl (wpAny_pure ?_))
  simp only [if_true]
  refine wpAny_bind (wpAny_rule ?_)
  refine wpAny_bind (wpAny_field hz rfl (x := .ref TO) rfl ?_)
  refine wpAny_bind (wpAny_setField_rec hz (by simp) fun g1 hz1 hs1 => ?_)
  replace hz1 : IsZip g1 z TI TO .ellipsis := hz1
  refine wpAny_bind ?_
  simp only [List.zipIdx_cons, List.zipIdx_nil, List.forIn_cons, List.forIn_nil]
  refine wpAny_bind (wpAny_bind (wpAny_onRaise ?_))
  show wpAny _ _ (Builtin.SmallTypes.nextOf (.ref i1) >>= _) _ _ _
  refine wpAny_bind (sit_item (h1.keep (fun o e => hs1.extBut _ _ D.i1z e) (fun o e => hs1.extBut _ _ D.l1z e)) D.l1i1 hx fun g2 h12 hs2 => wpAny_pure ?_)
  have hTO2 : IsPair g2 TO a b := hs2.extBut _ _ D.TOi1 (hs1.extBut _ _ D.TOz hTO)
  refine wpAny_bind (wpAny_seqItems hTO2 rfl ?_)
  refine wpAny_bind (wpAny_updateSeq_pair hTO2 fun g3 hTO3 hs3 => ?_)
  replace hTO3 : IsPair g3 TO x b := hTO3
  refine wpAny_bind (wpAny_letGo (wpAny_pure ?_))
  refine wpAny_bind (wpAny_bind (wpAny_onRaise ?_))
  show wpAny _ _ (Builtin.SmallTypes.nextOf (.ref i2) >>= _) _ _ _
  refine wpAny_bind (sit_item (h2.keep (fun o e => hs3.extBut _ _ D.TOi2.symm (hs2.extBut _ _ D.i12.symm (hs1.extBut _ _ D.i2z e))) (fun o e => hs3.extBut _ _ D.l2TO (hs2.extBut _ _ D.l2i1 (hs1.extBut _ _ D.l2z e)))) D.l2i2 hy fun g4 h24 hs4 => wpAny_pure ?_)
  have hTO4 : IsPair g4 TO x b := hs4.extBut _ _ D.TOi2 hTO3
  refine wpAny_bind (wpAny_seqItems hTO4 rfl ?_)
  refine wpAny_bind (wpAny_updateSeq_pair hTO4 fun g5 hTO5 hs5 => ?_)
  replace hTO5 : IsPair g5 TO x y := hTO5
  refine wpAny_bind (wpAny_letGo (wpAny_pure (wpAny_pure ?_)))
  refine wpAny_bind (wpAny_seqItems hTO5 rfl ?_)
  refine wpAny_bind (wpAny_newTuple ?_)
  have hsz : g5.objs.size = s.heap.objs.size := by rw [hs5.1, hs4.1, hs3.1, hs2.1, hs1.1]
  have kp : ∀ c o, c ≠ z → c ≠ TO → c ≠ i1 → c ≠ i2 → s.heap.get? c = some o → g5.get? c = some o := fun c o c1 c2 c3 c4 e =>
    hs5.extBut _ _ c2 (hs4.extBut _ _ c4 (hs3.extBut _ _ c2 (hs2.extBut _ _ c3 (hs1.extBut _ _ c1 e))))
  have hz5 : IsZip g5 z TI TO .ellipsis := hs5.extBut _ _ D.TOz.symm (hs4.extBut _ _ D.i2z.symm (hs3.extBut _ _ D.TOz.symm (hs2.extBut _ _ D.i1z.symm hz1)))
  have h15 : SIt g5 k1 i1 l1 (i + 1) xs := h12.keep (fun o e => hs5.extBut _ _ D.TOi1.symm (hs4.extBut _ _ D.i12 (hs3.extBut _ _ D.TOi1.symm e))) (fun o e => hs5.extBut _ _ D.l1TO (hs4.extBut _ _ D.l1i2 (hs3.extBut _ _ D.l1TO e)))
  have h25 : SIt g5 k2 i2 l2 (i + 1) ys := h24.keep (fun o e => hs5.extBut _ _ D.TOi2.symm e) (fun o e => hs5.extBut _ _ D.l2TO e)
  have hzlt : z < g5.objs.size := Heap.lt_size hz5
  show wpAny _ _ (Builtin.SmallTypes.ownedTupleHandOut (.ref z) (.ref g5.objs.size) >>= _) _ _ _
  refine wpAny_bind ?_
  unfold Builtin.SmallTypes.ownedTupleHandOut
  have hz6 : IsZip (g5.push { cls := .type "tuple", data := .seq #[x, y] }) z TI TO .ellipsis := Heap.get?_push_of_some _ hz5
  refine wpAny_bind (wpAny_setField_rec hz6 (by simp) fun g7 hz7 hs7 => ?_)
  replace hz7 : IsZip g7 z TI TO (rawInt g5.objs.size) := hz7
  refine wpAny_setField_rec hz7 (by simp) fun g8 hz8 hs8 => ?_
  replace hz8 : IsZip g8 z TI TO (rawInt g5.objs.size) := hz8
  have up : ∀ c o, c ≠ z → g5.get? c = some o → g8.get? c = some o := fun c o c1 e => hs8.extBut _ _ c1 (hs7.extBut _ _ c1 (Heap.get?_push_of_some _ e))
  have hT8 : IsPair g8 g5.objs.size x y := hs8.extBut _ _ (Nat.ne_of_gt hzlt) (hs7.extBut _ _ (Nat.ne_of_gt hzlt) (Heap.get?_push_size _ rfl))
  have z8 : g8.objs.size = g5.objs.size + 1 := by rw [hs8.1, hs7.1, Heap.size_push]
  rw [hsz] at hz8 hT8 z8
  refine wpAny_pure ⟨_, rfl, ?_⟩
  show Q (.ref g5.objs.size) _
  rw [hsz]
  exact hQ g8 hz8 (up _ _ D.TOz hTO5) (h15.keep (fun o e => up _ o D.i1z e) (fun o e => up _ o D.l1z e)) (h25.keep (fun o e => up _ o D.i2z e) (fun o e => up _ o D.l2z e)) hT8 z8 fun c o c1 c2 c3 c4 e => up c o c1 (kp c o c1 c2 c3 c4 e)
theorem nz_end {k1 k2 : Bool} {z TI TO i1 i2 l1 l2 : Addr} {i : Nat} {xs ys : Array Value} {a b : Value} {Q : Fin → Shared → Prop} (hh : A.handled = none) (D : ZipApart z TI TO i1 i2 l1 l2)
    (hz : IsZip s.heap z TI TO .none) (hTI : IsPair s.heap TI (.ref i1) (.ref i2)) (hTO : IsPair s.heap TO a b) (h1 : SIt s.heap k1 i1 l1 i xs) (h2 : SIt s.heap k2 i2 l2 i ys) (hx : xs[i]? = none) (hy : ys[i]? = none)
    (hE : ∀ h' e, (∀ c o, c ≠ z → c ≠ TO → c ≠ i1 → c ≠ i2 → s.heap.get? c = some o → h'.get? c = some o) → (∃ o, h'.get? e = some o ∧ o.cls = .type "StopIteration") → E (.ref e) { s with heap := h' }) :
    wpAny (model prog w) A (Builtin.«zip.__next__» ⟨[.ref z], []⟩) Q E s := by
  show wpAny _ _ (field (.ref z) 2 >>= _) _ _ _
  refine wpAny_bind (wpAny_field hz rfl (x := .bool false) rfl ?_)
  show wpAny _ _ (field (.ref z) 3 >>= _) _ _ _
  refine wpAny_bind (wpAny_field hz rfl (x := .ref TI) rfl ?_)
  refine wpAny_bind (wpAny_seqItems hTI rfl ?_)
  show wpAny _ _ (Builtin.SmallTypes.ownedTupleIsFree (.ref z) >>= _) _ _ _
  refine wpAny_bind ?_
  unfold Builtin.SmallTypes.ownedTupleIsFree
  refine wpAny_bind (wpAny_field hz rfl (x := .none) rfl (wpAny_pure ?_))
  simp only [if_true]
  refine wpAny_bind (wpAny_rule ?_)
  refine wpAny_bind (wpAny_field hz rfl (x := .ref TO) rfl ?_)
  refine wpAny_bind (wpAny_setField_rec hz (by simp) fun g1 hz1 hs1 => ?_)
  replace hz1 : IsZip g1 z TI TO .ellipsis := hz1
  refine wpAny_bind ?_
  simp only [List.zipIdx_cons, List.zipIdx_nil, List.forIn_cons, List.forIn_nil]
  refine wpAny_bind (wpAny_bind (wpAny_onRaise ?_))
  show wpAny _ _ (Builtin.SmallTypes.nextOf (.ref i1) >>= _) _ _ _
  refine wpAny_bind (sit_end hh (h1.keep (fun o e => hs1.extBut _ _ D.i1z e) (fun o e => hs1.extBut _ _ D.l1z e)) hx fun g2 e hs2 he => ?_)
  obtain ⟨oe, hoe, hce⟩ := he
  have hz2 : IsZip g2 z TI TO .ellipsis := hs2 _ _ D.i1z.symm hz1
  have hez : e ≠ z := fun x => by subst x; rw [hz2] at hoe; cases hoe; simp at hce
  exact wpAny_setField_rec hz2 (by simp) fun g3 _ hs3 => hE g3 e (fun c o c1 _ c3 _ x => hs3.extBut _ _ c1 (hs2 _ _ c3 (hs1.extBut _ _ c1 x))) ⟨oe, hs3.extBut _ _ hez hoe, hce⟩
theorem nz_nextItem {k1 k2 : Bool} {z TI TO i1 i2 l1 l2 : Addr} {i : Nat} {xs ys : Array Value} {x y a b : Value} {Q : Option Value → Shared → Prop} (D : ZipApart z TI TO i1 i2 l1 l2)
    (hz : IsZip s.heap z TI TO .none) (hTI : IsPair s.heap TI (.ref i1) (.ref i2)) (hTO : IsPair s.heap TO a b) (h1 : SIt s.heap k1 i1 l1 i xs) (h2 : SIt s.heap k2 i2 l2 i ys) (hx : xs[i]? = some x) (hy : ys[i]? = some y)
    (hQ : ∀ h', IsZip h' z TI TO (rawInt s.heap.objs.size) → IsPair h' TO x y → SIt h' k1 i1 l1 (i + 1) xs → SIt h' k2 i2 l2 (i + 1) ys → IsPair h' s.heap.objs.size x y → h'.objs.size = s.heap.objs.size + 1 →
      (∀ c o, c ≠ z → c ≠ TO → c ≠ i1 → c ≠ i2 → s.heap.get? c = some o → h'.get? c = some o) → Q (some (.ref s.heap.objs.size)) { s with heap := h' }) : wpAny (model prog w) A (pyNext (.ref z)) Q E s := by
  have hT : s.TypeIs (.ref z) "zip" := ⟨_, hz, rfl⟩
  unfold pyNext
  exact wpAny_bind (wpAny_attempt (wpAny_callSpecial?_slot (name := Str.ofString "__next__") hT F.slot_zip_next
    (wpAny_call_entry F.slot_zip_next hT F.entry_zip_next (nz_item D hz hTI hTO h1 h2 hx hy fun h' a1 a2 a3 a4 a5 a6 a7 => wpAny_pure (hQ h' a1 a2 a3 a4 a5 a6 a7)) (F.args_zip_next_1 _))))
theorem nz_nextEnd {k1 k2 : Bool} {z TI TO i1 i2 l1 l2 : Addr} {i : Nat} {xs ys : Array Value} {a b : Value} {Q : Option Value → Shared → Prop} (hh : A.handled = none) (D : ZipApart z TI TO i1 i2 l1 l2)
    (hz : IsZip s.heap z TI TO .none) (hTI : IsPair s.heap TI (.ref i1) (.ref i2)) (hTO : IsPair s.heap TO a b) (h1 : SIt s.heap k1 i1 l1 i xs) (h2 : SIt s.heap k2 i2 l2 i ys) (hx : xs[i]? = none) (hy : ys[i]? = none)
    (hQ : ∀ h', (∀ c o, c ≠ z → c ≠ TO → c ≠ i1 → c ≠ i2 → s.heap.get? c = some o → h'.get? c = some o) → Q none { s with heap := h' }) : wpAny (model prog w) A (pyNext (.ref z)) Q E s := by
  have hT : s.TypeIs (.ref z) "zip" := ⟨_, hz, rfl⟩
  unfold pyNext
  refine wpAny_bind (wpAny_attempt (wpAny_callSpecial?_slot (name := Str.ofString "__next__") hT F.slot_zip_next
    (wpAny_call_entry F.slot_zip_next hT F.entry_zip_next (nz_end hh D hz hTI hTO h1 h2 hx hy fun h' e hk he => ?_) (F.args_zip_next_1 _))))
  obtain ⟨o, ho, hc⟩ := he
  refine wpAny_bind (wpAny_isInstance (T := "StopIteration") (b := true) ⟨o, ho, hc⟩ isSubtype_stop ?_)
  exact wpAny_pure (hQ _ hk)
end
/-! ### the turns -/
theorem turn_zipN {P : Program} {w : World} {K : PySem.W.Frag} {elts : List Expr} {kk : Nat} {tpos : Pos} {k1 k2 : Bool} {a b z TI TO i1 i2 : Addr} (D : ZipApart z TI TO i1 i2 a b) :
    Turn P w K (.Tuple elts kk tpos) (ItS K k1 k2 a b) [z, TI, TO, i1, i2] z (fun i h => IsZip h z TI TO .none ∧ IsPair h TI (.ref i1) (.ref i2) ∧ (∃ x y, IsPair h TO x y) ∧ KI h k1 i1 a i ∧ KI h k2 i2 b i) where
  mem := by simp
  obj := fun i h st c hc => by
    obtain ⟨hz, hTI, ⟨x, y, hTO⟩, h1, h2⟩ := st
    obtain ⟨o1, e1, d1⟩ := h1.get
    obtain ⟨o2, e2, d2⟩ := h2.get
    have e' : c = z ∨ c = TI ∨ c = TO ∨ c = i1 ∨ c = i2 := by simpa using hc
    rcases e' with q | q | q | q | q
    · rw [q]; exact ⟨_, hz, fun v q => nomatch q⟩
    · rw [q]; exact ⟨_, hTI, fun v q => nomatch q⟩
    · rw [q]; exact ⟨_, hTO, fun v q => nomatch q⟩
    · rw [q]; exact ⟨o1, e1, d1⟩
    · rw [q]; exact ⟨o2, e2, d2⟩
  keep := fun i h h' st k => by
    obtain ⟨hz, hTI, ⟨x, y, hTO⟩, h1, h2⟩ := st
    exact ⟨k z (by simp) _ hz, k TI (by simp) _ hTI, ⟨x, y, k TO (by simp) _ hTO⟩, h1.at fun o q => k i1 (by simp) o q, h2.at fun o q => k i2 (by simp) o q⟩
  item := by
    intro X hP hw hK hc i pins s σ H E I hf st hg
    subst hP hw hK
    obtain ⟨hz, hTI, ⟨x0, y0, hTO⟩, h1, h2⟩ := st
    obtain ⟨xs, ys, x, y, hqx, hqy, hx, hy⟩ := hg
    obtain ⟨its, rv, p⟩ := sqk_its I hqx
    obtain ⟨its2, rv2, p2⟩ := sqk_its I hqy
    obtain ⟨u, hu, ru⟩ := rv.get hx
    obtain ⟨u2, hu2, ru2⟩ := rv2.get hy
    have hzl : z < s.heap.objs.size := Heap.lt_size hz
    refine nz_nextItem D hz hTI hTO (p h1) (p2 h2) (x := u) (y := u2) (by simpa using hu) (by simpa using hu2) fun h' z' TO' h1' h2' hT hsz hk => ?_
    refine ⟨_, rfl, wpAny_letOwnedTupleGo_zip (s := { s with heap := h' }) z' fun h'' z'' sb => ?_⟩
    have hT2 : h''.get? s.heap.objs.size = some { cls := .type "tuple", data := .seq #[u, u2] } := (sb.2 _ (Nat.ne_of_gt hzl)).trans hT
    have new : ObjOk X.prog X.w (upd H s.heap.objs.size (.tup [x, y])) h'' s.heap.objs.size (.tup [x, y]) :=
      ⟨by show 2 ≤ sizeLine; decide, [u, u2], .cons ru (.cons ru2 .nil), ⟨_, hT2, rfl, _, rfl⟩⟩
    have I1 : Inv X pins σ (upd H s.heap.objs.size (.tup [x, y])) { s with heap := h'' } :=
      I.turnedNew (t' := s.toks) (ch := [z, TI, TO, i1, i2]) (fun c o hb q => (sb.2 c (fun q' => hb (by simp [q']))).trans (hk c o (fun q' => hb (by simp [q'])) (fun q' => hb (by simp [q'])) (fun q' => hb (by simp [q'])) (fun q' => hb (by simp [q'])) q)) hf (Nat.le_refl _) new
    refine ⟨.ref s.heap.objs.size, _, I1, rfl, ⟨_, x, y, rfl, I.hok.fresh (Nat.le_refl _), rfl, fun l hl => by rw [sqk_inj I hl hqx]; exact hx, fun l hl => by rw [sqk_inj I hl hqy]; exact hy⟩, ⟨z'', ?_, ⟨u, u2, ?_⟩, ?_, ?_⟩, fun c hcm => ?_⟩
    · exact (sb.2 _ D.TIz).trans (hk _ _ D.TIz D.TITO D.TIi1 D.TIi2 hTI)
    · exact (sb.2 _ D.TOz).trans TO'
    · exact h1'.ki.at fun o q => (sb.2 _ D.i1z).trans q
    · exact h2'.ki.at fun o q => (sb.2 _ D.i2z).trans q
    · have hlt : c < s.heap.objs.size := by
        have e' : c = z ∨ c = TI ∨ c = TO ∨ c = i1 ∨ c = i2 := by simpa using hcm
        rcases e' with q | q | q | q | q
        · rw [q]; exact hzl
        · rw [q]; exact Heap.lt_size hTI
        · rw [q]; exact Heap.lt_size hTO
        · rw [q]; obtain ⟨_, e1, _⟩ := h1.get; exact Heap.lt_size e1
        · rw [q]; obtain ⟨_, e2, _⟩ := h2.get; exact Heap.lt_size e2
      rw [upd_ne (Nat.ne_of_lt hlt)]
      exact (hf c hcm).1
  done := by
    intro X hP hw hK hc i pins s σ H E I hf st hg
    subst hP hw hK
    obtain ⟨hz, hTI, ⟨x0, y0, hTO⟩, h1, h2⟩ := st
    obtain ⟨xs, ys, hqx, hqy, he1, he2⟩ := hg
    obtain ⟨its, rv, p⟩ := sqk_its I hqx
    obtain ⟨its2, rv2, p2⟩ := sqk_its I hqy
    have l1 := rv.length
    have l2 := rv2.length
    exact nz_nextEnd (I.ok.hd hc) D hz hTI hTO (p h1) (p2 h2) (by simp; omega) (by simp; omega) fun h' hk => ⟨rfl, I.turnedL (t' := s.toks) (ch := [z, TI, TO, i1, i2]) (fun c o hb q => hk c o (fun q' => hb (by simp [q'])) (fun q' => hb (by simp [q'])) (fun q' => hb (by simp [q'])) (fun q' => hb (by simp [q'])) q) hf⟩
  self := fun A i s Q E st h => wpAny_pyIter_zip st.1 h
def iZipN (K : PySem.W.Frag) (ta : TA) : TI := fun σ H R => ta σ H fun vs H1 => ∃ (k1 k2 : Bool) (a b : Addr) (xs ys : List V), vs = [.ref a, .ref b] ∧ SqK K H1 k1 a xs ∧ SqK K H1 k2 b ys ∧ R (ItS K k1 k2 a b) H1
section
variable {X : Cx} {pins : List (Addr × Obj)} {σ : L2.St} {H : Hp} {s : Shared}
theorem sqk_begins {k : Bool} {a : Addr} {xs : List V} (I : Inv X pins σ H s) (h : SqK X.K H k a xs) : ∃ (o : Obj) (H1 : Heap → Prop), Begins (.ref a) o H1 ∧ H1 s.heap ∧ a < s.heap.objs.size ∧ ∀ (h' : Heap) (it : Addr), h'.get? it = some o → KI h' k it a 0 := by
  cases k with
  | true =>
    obtain ⟨i1, v1, p1, _⟩ := I.tuple h
    obtain ⟨o1, ho1, _⟩ := id p1
    exact ⟨_, _, begins_tuple a i1.toArray, (show s.heap.IsTuple a i1.toArray from p1), Heap.lt_size ho1, fun h' it g => (show h'.IsTupleIter it a 0 from ⟨_, g, rfl, rfl⟩)⟩
  | false =>
    obtain ⟨i1, v1, p1, _⟩ := I.list h
    exact ⟨_, _, begins_list a i1.toArray, p1.isList, p1.lt, fun h' it g => (show h'.IsListIter it a 0 from ⟨_, g, rfl, rfl⟩)⟩
end
theorem pi_zipN {X : Cx} {e e2 : Expr} {ta : TA} {p pos tpos : Pos} {elts : List Expr} {kk : Nat} (hg : Gl X "zip") (hm : X.mg "zip" = none) (ha : PA X [e, e2] ta)
    (hs : starEach [e, e2] X.env = (false, eval e X.env) :: starEach [e2] X.env := by rfl) (hpl : (backTo pos (starEach [e2] X.env)).any (·.1) = false := by rfl) :
    PI X (.Tuple elts kk tpos) (.Call (.Name "zip" p) [e, e2] [] pos) (iZipN X.K ta) := by
  refine ⟨fun pins s σ H R I h => ?_⟩
  refine Call_ (ld_blt I hg hm PyProof.Rows.boot_zip (PyProof.Rows.callWith_type1 (thn (ha.run pos pins s σ H _ I h) fun us s2 ⟨vs, H2, I2, r1, q1⟩ => ?_) hs hpl))
  obtain ⟨k1, k2, a, b, xs, ys, ex, hqx, hqy, q⟩ := q1
  subst ex
  cases r1 with
  | cons r rr =>
    cases rr with
    | cons r' rr =>
      cases rr
      cases r
      cases r'
      have fresh5 : ∀ c, c ∈ [s2.heap.objs.size + 4, s2.heap.objs.size + 2, s2.heap.objs.size + 3, s2.heap.objs.size, s2.heap.objs.size + 1] → FpOk X pins H2 c := fun c hcm => by
        have e' : c = s2.heap.objs.size + 4 ∨ c = s2.heap.objs.size + 2 ∨ c = s2.heap.objs.size + 3 ∨ c = s2.heap.objs.size ∨ c = s2.heap.objs.size + 1 := by simpa using hcm
        have hle : s2.heap.objs.size ≤ c := by omega
        exact I2.fpOk hle (I2.hok.fresh hle)
      obtain ⟨o1, P1, B1, w1, l1, g1'⟩ := sqk_begins I2 hqx
      obtain ⟨o2, P2, B2, w2, l2, g2'⟩ := sqk_begins I2 hqy
      refine zip_begins2 B1 B2 w1 w2 fun h' hz hTI hTO g1 g2 hsz hk => wpAny_pyIter_zip hz ?_
      exact ⟨s2.heap.objs.size + 4, [s2.heap.objs.size + 4, s2.heap.objs.size + 2, s2.heap.objs.size + 3, s2.heap.objs.size, s2.heap.objs.size + 1], _, _, H2, rfl, I2.kept (t' := s2.toks) hk, turn_zipN (k1 := k1) (k2 := k2) (PySem.W.ktu_apart s2.heap.objs.size a b l1 l2), ⟨hz, hTI, ⟨_, _, hTO⟩, g1' _ _ g1, g2' _ _ g2⟩, fresh5, q⟩
end Bk
set_option Elab.async false
set_option linter.all false
set_option maxRecDepth 100000
set_option maxHeartbeats 4000000
/-! Bk27: readers as data: counts and rules; what is amiss in one. -/
namespace Bk
open PySem PySem.Spec PyProof.Rows L2
abbrev Fx := Int × Int
abbrev Tm := Fx × List (Option Int)
abbrev Sm := List Tm
abbrev Rl := List Sm
abbrev Rd := List Int × List Rl
def fxD (f : Fx) : D := .tup [.int f.1, .int f.2]
def bxD : Option Int → D
  | none => .non
  | some i => .int i
def tmD (t : Tm) : D := .tup [fxD t.1, .tup (t.2.map bxD)]
def smD (s : Sm) : D := .tup (s.map tmD)
def rlD (r : Rl) : D := .tup (r.map smD)
def rdD (r : Rd) : D := .tup [.tup (r.1.map D.int), .tup (r.2.map rlD)]
theorem Reps.ints {H : Hp} : ∀ {is : List Int} {vs : List V}, Reps H (is.map D.int) vs → vs = is.map V.int
  | [], vs, h => by simpa only [List.map, Reps] using h
  | i :: is, vs, h => by
    rw [List.map_cons] at h
    obtain ⟨v, r, rfl, hv, hr⟩ := h
    rw [Reps.ints hr]
    have : v = .int i := by simpa only [Rep] using hv
    rw [this]
    rfl
theorem Reps.two {H : Hp} {d e : D} {vs : List V} (h : Reps H [d, e] vs) : ∃ x y, vs = [x, y] ∧ Rep H d x ∧ Rep H e y := by
  obtain ⟨x, r, rfl, hx, h⟩ := h
  obtain ⟨y, r, rfl, hy, h⟩ := h
  have : r = [] := by simpa only [Reps] using h
  subst this
  exact ⟨x, y, rfl, hx, hy⟩
theorem fx_at {H : Hp} {f : Fx} {v : V} (h : Rep H (fxD f) v) : ∃ p, v = .ref p ∧ H p = some (.tup [.int f.1, .int f.2]) := by
  obtain ⟨a, xs, rfl, ha, rs⟩ := Rep.tupI h
  obtain ⟨x, y, rfl, hx, hy⟩ := rs.two
  have e1 : x = .int f.1 := by simpa only [Rep] using hx
  have e2 : y = .int f.2 := by simpa only [Rep] using hy
  subst e1 e2
  exact ⟨a, rfl, ha⟩
theorem Rep.fx {H : Hp} {f : Fx} {p : Addr} (h : H p = some (.tup [.int f.1, .int f.2])) : Rep H (fxD f) (.ref p) := Rep.two h (Rep.i _) (Rep.i _)
theorem Rep.tupO {H : Hp} {ds : List D} {a : Addr} {xs : List V} (ha : H a = some (.tup xs)) (h : Reps H ds xs) : Rep H (.tup ds) (.ref a) := by
  simp only [Rep]
  exact ⟨a, xs, rfl, ha, h⟩
theorem Rep.rd {H : Hp} {r : Rd} {a c b : Addr} {xs : List V} (ha : H a = some (.tup [.ref c, .ref b])) (hc : H c = some (.tup (r.1.map V.int))) (hb : H b = some (.tup xs)) (rb : Reps H (r.2.map rlD) xs) : Rep H (rdD r) (.ref a) :=
  Rep.two ha (Rep.ints hc) (Rep.tupO hb rb)
theorem boxes_hard : ∀ bs : List (Option Int), D.hards (bs.map bxD) = true
  | [] => rfl
  | b :: bs => by
    show ((bxD b).hard && D.hards (bs.map bxD)) = true
    rw [boxes_hard bs]
    cases b <;> rfl
theorem tm_hard (t : Tm) : (tmD t).hard = true := by
  show ((fxD t.1).hard && (D.hards (t.2.map bxD) && true)) = true
  rw [boxes_hard]
  rfl
theorem hards_map {α : Type} {f : α → D} (h : ∀ x, (f x).hard = true) : ∀ xs : List α, D.hards (xs.map f) = true
  | [] => rfl
  | x :: xs => by
    show ((f x).hard && D.hards (xs.map f)) = true
    rw [h x, hards_map h xs]
    rfl
theorem sm_hard (s : Sm) : (smD s).hard = true := hards_map tm_hard s
theorem rl_hard (r : Rl) : (rlD r).hard = true := hards_map sm_hard r
theorem rd_hard (r : Rd) : (rdD r).hard = true := by
  show (D.hards (r.1.map D.int) && (D.hards (r.2.map rlD) && true)) = true
  rw [ints_hard, hards_map rl_hard]
  rfl
/-! ### what is amiss -/
def cntAt (cs : List Int) (n : Int) : Int := cs.getD n.toNat 0
def boxOk (cs : List Int) (p : Int × Option Int) : Bool := match p.2 with
  | none => true
  | some b => decide (0 ≤ b ∧ b < cntAt cs p.1)
/-! ### bounds -/
structure TmB (t : Tm) : Prop where
  boxes : t.2.length ≤ 1000
  upper : Bits 900 t.1.1
  lower : Bits 900 t.1.2
structure RdrB (r : Rd) : Prop where
  counts : r.1.length ≤ 1000
  rules : r.2.length ≤ 1000
  rule : ∀ x ∈ r.2, x.length ≤ 1000 ∧ ∀ s ∈ x, s.length ≤ 1000 ∧ ∀ t ∈ s, TmB t
/-- told: nothing amiss, or what, of which maker -/
def ToldR (C : Addr) (H : Hp) (o : Option (Str × Str)) (q : Hp → Prop) (E : XK) : Prop := (o = none → ∀ H', Ex H H' → q H') ∧ ∀ r, o = some r → ∀ d H', Ex H H' → H' d = some (.xd [("maker", .str r.2), ("word", .str r.1)]) → E (.ref C) (some d) H'
def spNeedR (C : Addr) : Sp := fun vs H Q E => ∃ (b : Bool) (x y : V), vs = [.bl b, x, y] ∧ (b = true → Q .non H) ∧ (b = false → ∀ d H', Ex H H' → H' d = some (.xd [("maker", y), ("word", x)]) → E (.ref C) (some d) H')
theorem tab_of : ∀ {w : Wd} {n : Nat} {e : Nat × Mk}, e ∈ tabFrom n w → ∃ (i : Nat) (k : Str × List Mk), w[i]? = some k ∧ e.2 ∈ k.2 ∧ e.1 = n + i
  | [], n, e, h => nomatch h
  | k :: w, n, e, h => by
    rcases List.mem_append.1 (show e ∈ k.2.map (fun m => (n, m)) ++ tabFrom (n + 1) w from h) with h | h
    · obtain ⟨m, hm, rfl⟩ := List.mem_map.1 h
      exact ⟨0, k, rfl, hm, rfl⟩
    · obtain ⟨i, k2, h1, h2, h3⟩ := tab_of h
      exact ⟨i + 1, k2, h1, h2, by omega⟩
theorem dueOf_in {w : Wd} (ok : WoodOk w) {e : Nat × Mk} (he : e ∈ tabFrom 0 w) : e.1 < w.length ∧ (dueOf w e).length = e.2.2.length ∧ e.2.2.length ≤ 2 ∧ ∀ x ∈ dueOf w e, 0 ≤ x ∧ x < (w.length : Nat) := by
  obtain ⟨i, k, hk, hm, he1⟩ := tab_of he
  have hkm := List.mem_of_getElem? hk
  have z := ok.mkr k hkm e.2 hm
  refine ⟨?_, by unfold dueOf; rw [List.length_map], z.2.1, fun x hx => ?_⟩
  · have := (List.getElem?_eq_some_iff.1 hk).1
    omega
  · unfold dueOf at hx
    obtain ⟨s, hs, rfl⟩ := List.mem_map.1 hx
    obtain ⟨k2, hk2, e2⟩ := List.mem_map.1 (z.2.2 s hs)
    obtain ⟨j, hj⟩ := List.mem_iff_getElem?.1 hk2
    rw [← e2, kno_idx ok.knd hj]
    have := (List.getElem?_eq_some_iff.1 hj).1
    omega
theorem cnt_at {cs : List Int} {n : Int} (h0 : 0 ≤ n) (h1 : n < (cs.length : Nat)) : atI (cs.map V.int) n = some (.int (cntAt cs n)) := by
  obtain ⟨x, ex, hx⟩ := atI_ex (l := cs.map V.int) h0 (by rw [List.length_map]; exact h1)
  rw [ex]
  rw [List.getElem?_map] at hx
  unfold cntAt
  rw [List.getD_eq_getElem?_getD]
  cases c : cs[n.toNat]? with
  | none => rw [c] at hx; cases hx
  | some y => rw [c] at hx; cases hx; rfl
/-! ### readers that are drawn -/
theorem decInt {a b : Int} : decide (V.int a = V.int b) = decide (a = b) := by
  by_cases c : a = b
  · rw [c, decide_eq_true rfl, decide_eq_true rfl]
  · rw [decide_eq_false c, decide_eq_false fun z => c (V.int.inj z)]
theorem zip_at {α β : Type} {as : List α} {bs : List β} {i : Nat} {a : α} {b : β} (ha : as[i]? = some a) (hb : bs[i]? = some b) : (as.zip bs)[i]? = some (a, b) := List.getElem?_zip_eq_some.2 ⟨ha, hb⟩
def FxOk (f : Fx) : Prop := 0 < f.2 ∧ Int.gcd f.1 f.2 = 1 ∧ f.1.natAbs ≤ 1000 ∧ f.2 ≤ 100
structure TmOk (cs ps : List Int) (t : Tm) : Prop where
  num : FxOk t.1
  len : t.2.length = ps.length
  box : (ps.zip t.2).all (boxOk cs) = true
structure RdOk (w : Wd) (r : Rd) : Prop where
  counts : r.1.length = w.length
  count : ∀ c ∈ r.1, 0 ≤ c ∧ c ≤ 4
  rules : r.2.length = (tabFrom 0 w).length
  rule : ∀ (j : Nat) (e : Nat × Mk) (x : Rl), (tabFrom 0 w)[j]? = some e → r.2[j]? = some x → (x.length : Int) = cntAt r.1 e.1 ∧ ∀ s ∈ x, s.length ≤ 6 ∧ ∀ t ∈ s, TmOk r.1 (dueOf w e) t
theorem fx_low {u l : Int} (h : 0 < l) : 0 < l.fdiv ((Int.gcd u l : Nat) : Int) ∧ Int.gcd (u.fdiv ((Int.gcd u l : Nat) : Int)) (l.fdiv ((Int.gcd u l : Nat) : Int)) = 1 ∧ (u.fdiv ((Int.gcd u l : Nat) : Int)).natAbs ≤ u.natAbs ∧ l.fdiv ((Int.gcd u l : Nat) : Int) ≤ l := by
  have g0 : 0 < Int.gcd u l := Int.gcd_pos_of_ne_zero_right u (by omega)
  have g1 : ((Int.gcd u l : Nat) : Int) ≠ 0 := by omega
  have d1 : ((Int.gcd u l : Nat) : Int) ∣ u := Int.gcd_dvd_left _ _
  have d2 : ((Int.gcd u l : Nat) : Int) ∣ l := Int.gcd_dvd_right _ _
  have m1 := Int.fdiv_mul_cancel d1
  have m2 := Int.fdiv_mul_cancel d2
  have p2 : 0 < l.fdiv ((Int.gcd u l : Nat) : Int) := by
    refine Int.pos_of_mul_pos_left ?_ (by omega : (0 : Int) < ((Int.gcd u l : Nat) : Int))
    rw [m2]
    exact h
  refine ⟨p2, ?_, fdiv_le g1 d1, ?_⟩
  · have := Int.gcd_mul_right (u.fdiv ((Int.gcd u l : Nat) : Int)) ((Int.gcd u l : Nat) : Int) (l.fdiv ((Int.gcd u l : Nat) : Int))
    rw [m1, m2] at this
    rw [Int.natAbs_natCast] at this
    have e : Int.gcd (u.fdiv ((Int.gcd u l : Nat) : Int)) (l.fdiv ((Int.gcd u l : Nat) : Int)) * Int.gcd u l = 1 * Int.gcd u l := by omega
    exact Nat.eq_of_mul_eq_mul_right g0 e
  · have := fdiv_le g1 d2
    omega
theorem all_snoc {α : Type} (f : α → Bool) (l : List α) (x : α) : (l ++ [x]).all f = (l.all f && f x) := by
  rw [List.all_append, List.all_cons, List.all_nil, Bool.and_true]
theorem empty_snoc {α : Type} (l : List α) (x : α) : (l ++ [x]).isEmpty = false := by cases l <;> rfl
/-! ### readers spoilt -/
theorem tuple_mulE (l : Addr) (items : Array Value) (n : Nat) (dd : Option Addr) (sl : Array (Option Value)) (x : Int) (u : Tok) (c0 : (decide (x < -(2 ^ 63)) || decide (x ≥ 2 ^ 63)) = false) (c1 : (items.isEmpty || x == 1) = true) :
    Meets (Builtin.«tuple.__mul__» ⟨[.ref l, .int x u], []⟩) (fun _ R s => s.heap.get? l = some { cls := .type "tuple", dict := dd, data := .seq items n, slots := sl } ∧ R (.ok (.ret (Value.ref l))) s) :=
  .of_wp fun prog w A R s h => by
    obtain ⟨hp, g, d, tk, os⟩ := s
    obtain ⟨hl, h⟩ := h
    have f1 := AutoSeq1.idx_int
    wp_walk using wpAny_loadPart' hl
    repeat (first
      | (refine wpAny_ite_false (decide_eq_false (by rw [c0]; exact Bool.false_ne_true)) ?_; wp_walk using wpAny_loadPart' hl)
      | (refine wpAny_ite_true (decide_eq_true (by rw [c1])) ?_; wp_walk using wpAny_loadPart' hl)
      | (refine wpAny_ite_true (by simp [c1]) ?_; wp_walk using wpAny_loadPart' hl))
    exact ⟨_, rfl, h⟩
def rRepTn (K : PySem.W.Frag) : R2 := fun x y H Q => ∃ (l : Addr) (k : Int) (xs : List V), x = .ref l ∧ y = .int k ∧ H l = some (.tup xs) ∧ xs.length ≤ 1000 ∧ 0 ≤ k ∧ k ≤ 1000 ∧
  ∀ p H', Ex H H' → H' p = some (.tup (List.replicate k.toNat xs).flatten) → Q (.ref p) H'
section
variable {X : Cx}
theorem op_repTn : OpR X (binaryOp .Mult) (rRepTn X.K) := by
  intro pins s σ H x y v u Q I rx ry h
  obtain ⟨l, k, xs, e1, e2, hT, hl, k0, k1, q⟩ := h
  have he : ∀ ys : List V, ys = (List.replicate k.toNat xs).flatten → ∀ p, H p = some (.tup ys) → Q (.ref p) H := fun ys e p hp => q p H (Ex.refl _) (by rw [← e]; exact hp)
  by_cases c2 : xs ≠ [] ∧ 2 ≤ k
  · exact op_repT pins s σ H x y v u Q I rx ry ⟨l, k, xs, e1, e2, sqT hT, c2.1, c2.2, k1, hl, fun p hp => q p _ (Ex.new hp) upd_same⟩
  subst e1 e2
  cases rx
  obtain ⟨t, rfl⟩ := ry
  obtain ⟨its, r, ⟨⟨cls, dd, data, sl⟩, ho, hc, n, hd⟩, hs⟩ := I.tuple (sqT hT)
  simp only at hc hd
  subst hc hd
  have F1 := @wpAny_binaryOp_repeat_ref
  by_cases c3 : xs = [] ∨ k = 1
  · have c4 : (its.toArray.isEmpty || k == 1) = true := by
      rcases c3 with rfl | rfl
      · cases r
        rfl
      · simp
    refine wpAny_binaryOp_repeat_ref (T := "tuple") (U := "int") (by decide) ⟨_, ho, rfl⟩ (fun s' => typeIs_int s' k t) noFill_tuple_mul F.fills_int_mul F.slot_int_rmul repeat_tuple F.slot_int_index.lookup
      (call_meets F.slot_int_rmul (typeIs_int s k t) F.entry_int_rmul (F.args_int_rmul_2 _ _) (int_rmul_tuple k t l its.toArray n dd sl)
        ⟨ho, rfl, ⟨_, ho, rfl⟩, call_meets F.slot_tuple_mul ⟨_, ho, rfl⟩ F.entry_tuple_mul (F.args_tuple_mul_2 _ _) (tuple_mulE l its.toArray n dd sl k t (by rw [decide_eq_false (by omega), decide_eq_false (by omega)]; rfl) c4) ⟨ho, ?_⟩⟩)
    refine ⟨.ref l, H, I, rfl, he xs ?_ l hT⟩
    rcases c3 with rfl | rfl
    · generalize k.toNat = m
      induction m with
      | zero => rfl
      | succ m ih => exact ih
    · show xs = (List.replicate 1 xs).flatten
      simp
  · have k2 : k = 0 := Classical.byContradiction fun z => c2 ⟨fun e => c3 (.inl e), by
      have : k ≠ 1 := fun e => c3 (.inr e)
      omega⟩
    subst k2
    have ne : its.toArray.isEmpty = false := by
      cases r with
      | nil => exact absurd (.inl rfl) c3
      | cons a b => rfl
    refine wpAny_binaryOp_repeat_ref (T := "tuple") (U := "int") (by decide) ⟨_, ho, rfl⟩ (fun s' => typeIs_int s' 0 t) noFill_tuple_mul F.fills_int_mul F.slot_int_rmul repeat_tuple F.slot_int_index.lookup
      (call_meets F.slot_int_rmul (typeIs_int s 0 t) F.entry_int_rmul (F.args_int_rmul_2 _ _) (int_rmul_tuple 0 t l its.toArray n dd sl)
        ⟨ho, rfl, ⟨_, ho, rfl⟩, call_meets F.slot_tuple_mul ⟨_, ho, rfl⟩ F.entry_tuple_mul (F.args_tuple_mul_2 _ _) (tuple_mul0 l its.toArray n dd sl t (by rw [ne]; rfl)) ⟨ho, ?_⟩⟩)
    refine ⟨.ref s.heap.objs.size, _, I.laid (t' := s.toks) (o := .tup []) (fun b ob q => Heap.get?_push_of_some _ q) (Nat.le_refl _) ?_, rfl, q _ _ (Ex.new (I.hok.fresh (Nat.le_refl _))) upd_same⟩
    exact ⟨by decide, _, .nil, IsTup.new _ _⟩
end
theorem g_repTn {K : PySem.W.Frag} {H : Hp} {Q : VK} {l : Addr} {k : Int} {xs : List V} (hl : H l = some (.tup xs)) (hx : xs.length ≤ 1000) (k0 : 0 ≤ k) (k1 : k ≤ 1000) (q : ∀ p H', Ex H H' → H' p = some (.tup (List.replicate k.toNat xs).flatten) → Q (.ref p) H') : rRepTn K (.ref l) (.int k) H Q := ⟨l, k, xs, rfl, rfl, hl, hx, k0, k1, q⟩
theorem cutV_len {xs : List V} {i : Int} (h0 : 0 ≤ i) : (cutV xs none (some i)).length = min i.toNat xs.length ∧ (cutV xs (some i) none).length = xs.length - i.toNat := by
  unfold cutV
  have e : i = ((i.toNat : Nat) : Int) := by omega
  rw [e, HT.sIx_nat, HT.sIx_none, HT.sIx_none, HT.sIx_nat]
  constructor
  · rw [List.length_take, List.length_drop]
    simp
    try omega
  · rw [List.length_take, List.length_drop]
    simp
    try omega
theorem cutV_one {xs : List V} {i : Int} (h0 : 0 ≤ i) : (cutV xs (some i) (some (i + 1))).length = min 1 (xs.length - i.toNat) := by
  unfold cutV
  have e : i = ((i.toNat : Nat) : Int) := by omega
  have e1 : i + 1 = ((i.toNat + 1 : Nat) : Int) := by omega
  rw [e1, e, HT.sIx_nat, HT.sIx_nat, List.length_take, List.length_drop]
  simp
  omega
end Bk
set_option Elab.async false
set_option linter.all false
set_option maxRecDepth 100000
set_option maxHeartbeats 4000000
/-! Bk28: readers spoilt, within bounds. -/
namespace Bk
open PySem PySem.Spec PyProof.Rows L2
def TmN (n : Nat) (t : Tm) : Prop := t.2.length ≤ 2 + n ∧ Bits 20 t.1.1 ∧ Bits 20 t.1.2
def SmN (n : Nat) (s : Sm) : Prop := s.length ≤ 6 + n ∧ ∀ t ∈ s, TmN n t
def RlN (n : Nat) (x : Rl) : Prop := x.length ≤ 4 + n ∧ ∀ s ∈ x, SmN n s
structure RdN (n : Nat) (r : Rd) : Prop where
  counts : r.1.length ≤ 4 + n
  rules : r.2.length ≤ 12 + n
  rule : ∀ x ∈ r.2, RlN n x
theorem TmN.le {n m : Nat} {t : Tm} (h : TmN n t) (hm : n ≤ m) : TmN m t := ⟨by have := h.1; omega, h.2⟩
theorem SmN.le {n m : Nat} {s : Sm} (h : SmN n s) (hm : n ≤ m) : SmN m s := ⟨by have := h.1; omega, fun t ht => (h.2 t ht).le hm⟩
theorem RlN.le {n m : Nat} {x : Rl} (h : RlN n x) (hm : n ≤ m) : RlN m x := ⟨by have := h.1; omega, fun s hs => (h.2 s hs).le hm⟩
theorem RdN.le {n m : Nat} {r : Rd} (h : RdN n r) (hm : n ≤ m) : RdN m r := ⟨by have := h.counts; omega, by have := h.rules; omega, fun x hx => (h.rule x hx).le hm⟩
theorem RdN.bnd {n : Nat} {r : Rd} (h : RdN n r) (hn : n ≤ 500) : RdrB r := ⟨by have := h.counts; omega, by have := h.rules; omega, fun x hx => ⟨by have := (h.rule x hx).1; omega, fun s hs => ⟨by have := ((h.rule x hx).2 s hs).1; omega, fun t ht => by
  have z := ((h.rule x hx).2 s hs).2 t ht
  exact ⟨by have := z.1; omega, z.2.1.le, z.2.2.le⟩⟩⟩⟩
theorem RdOk.n0 {w : Wd} (ok : WoodOk w) {r : Rd} (h : RdOk w r) : RdN 0 r := by
  refine ⟨by have := h.counts; have := ok.kinds; omega, by have := h.rules; have := ok.many; omega, fun x hx => ?_⟩
  obtain ⟨j, hj⟩ := List.mem_iff_getElem?.1 hx
  have hl := (List.getElem?_eq_some_iff.1 hj).1
  rw [h.rules] at hl
  have he := List.getElem?_eq_getElem hl
  obtain ⟨h1, h2⟩ := h.rule j _ x he hj
  obtain ⟨ek, dl, d2, din⟩ := dueOf_in ok (List.getElem_mem hl)
  have hc : cntAt r.1 ((tabFrom 0 w)[j]).1 ≤ 4 := by
    unfold cntAt
    rw [List.getD_eq_getElem?_getD]
    have hl2 : (((tabFrom 0 w)[j]).1 : Int).toNat < r.1.length := by
      rw [h.counts]
      omega
    rw [List.getElem?_eq_getElem hl2]
    exact (h.count _ (List.getElem_mem hl2)).2
  refine ⟨by omega, fun s hs => ⟨(h2 s hs).1, fun t ht => ?_⟩⟩
  have z := (h2 s hs).2 t ht
  refine ⟨by rw [z.len, dl]; omega, ?_, ?_⟩
  · exact Nat.lt_of_le_of_lt z.num.2.2.1 (by decide)
  · have := z.num
    have e : t.1.2.natAbs ≤ 100 := by
      have := this.1
      have := this
      have := z.num.2.2.2
      omega
    exact Nat.lt_of_le_of_lt e (by decide)
theorem map_of {α : Type} {f : α → V} : ∀ {ys : List V}, (∀ y ∈ ys, ∃ a, y = f a) → ∃ as : List α, ys = as.map f ∧ as.length = ys.length
  | [], _ => ⟨[], rfl, rfl⟩
  | y :: ys, h => by
    obtain ⟨a, rfl⟩ := h y List.mem_cons_self
    obtain ⟨as, rfl, e⟩ := map_of (ys := ys) fun z hz => h z (List.mem_cons_of_mem _ hz)
    exact ⟨a :: as, rfl, by rw [List.length_cons, List.length_cons, e]⟩
theorem Box.tkne {H H' : Hp} {p a : Addr} {xs : List V} (b : Box H' p) (e : Ex H H') (h : H a = some (.tup xs)) : a ≠ p := fun z => by
  obtain ⟨_, _, _, hp⟩ := b
  rw [z] at h
  have := e _ _ h
  rw [hp] at this
  cases this
/-! ### what stands while a box is drawn from -/
def Kp (p : Addr) (H H' : Hp) : Prop := But p H H' ∧ Box H' p ∧ Tk H H'
theorem Kp.refl {p : Addr} {H : Hp} (h : Box H p) : Kp p H H := ⟨But.refl _ _, h, Tk.refl _⟩
theorem Kp.but {p : Addr} {H H1 H2 : Hp} (k : Kp p H H1) (b : But p H1 H2) (hb : Box H2 p) : Kp p H H2 := ⟨k.1.trans b, hb, k.2.2.trans (k.2.1.tk b)⟩
theorem Kp.ex {p : Addr} {H H1 H2 : Hp} (k : Kp p H H1) (e : Ex H1 H2) : Kp p H H2 := k.but (e.but p) (k.2.1.ex e)
theorem Kp.new {p a : Addr} {H H1 : Hp} {o : HO} (k : Kp p H H1) (h : H1 a = none) : Kp p H (upd H1 a o) := k.ex (Ex.new h)
theorem Kp.trans {p : Addr} {H H1 H2 : Hp} (k : Kp p H H1) (k2 : Kp p H1 H2) : Kp p H H2 := k.but k2.1 k2.2.1
theorem Reps.tkm {α : Type} {f : α → D} {H H' : Hp} {as : List α} {xs : List V} (t : Tk H H') (hf : ∀ a, (f a).hard = true) (r : Reps H (as.map f) xs) : Reps H' (as.map f) xs := Reps.tk t (hards_map hf as) r
theorem Kp.put {p a : Addr} {H H1 : Hp} {xs ys : List V} (k : Kp p H H1) (h : H a = none) (n : a ≠ p) (hl : H1 a = some (.lst xs)) : Kp p H (upd H1 a (.lst ys)) := ⟨k.1.at_new h, k.2.1.at_upd n, k.2.2.trans (((But.refl a H1).upd).tkl hl)⟩
theorem Kp.free {p a : Addr} {H H1 : Hp} (k : Kp p H H1) (h : H1 a = none) : H a = none := by
  have n := k.2.1.ne h
  cases e : H a with
  | none => rfl
  | some o =>
    have := k.1 a o n e
    rw [h] at this
    cases this
theorem Kp.ne {p a : Addr} {H H1 : Hp} (k : Kp p H H1) (h : H1 a = none) : a ≠ p := k.2.1.ne h
theorem reps_snoc {α : Type} {f : α → D} {H : Hp} {as : List α} {xs : List V} {a : α} {v : V} (r : Reps H (as.map f) xs) (h : Rep H (f a) v) : Reps H ((as ++ [a]).map f) (xs ++ [v]) := by
  rw [List.map_append]
  exact Reps.append r ⟨v, [], rfl, h, by simp only [List.map, Reps]⟩
theorem tk_put {H : Hp} {a : Addr} {xs ys : List V} (hl : H a = some (.lst xs)) : Tk H (upd H a (.lst ys)) := ((But.refl a H).upd).tkl hl
/-! ### what is told is text -/
theorem or_some {α : Type} {a b : Option α} {x : α} (h : a.or b = some x) : a = some x ∨ b = some x := by
  cases a with
  | none => exact .inr h
  | some y => exact .inl h
end Bk
set_option Elab.async false
set_option linter.all false
set_option maxRecDepth 100000
set_option maxHeartbeats 4000000
/-! Bk29: fractions added and multiplied, how great they become. -/
namespace Bk
open PySem PySem.Spec PyProof.Rows L2
/-- the lower number goes into N, the worth is at most A -/
structure Szf (A N : Nat) (f : Fx) : Prop where
  pos : 0 < f.2
  dvd : f.2.natAbs ∣ N
  le : f.1.natAbs ≤ A * f.2.natAbs
def lowF (u l : Int) : Fx := (fru u l, frl u l)
def mulF (f g : Fx) : Fx := lowF (f.1 * g.1) (f.2 * g.2)
def addF (f g : Fx) : Fx := lowF (f.1 * g.2 + g.1 * f.2) (f.2 * g.2)
theorem Szf.mono {A B N M : Nat} {f : Fx} (h : Szf A N f) (ha : A ≤ B) (hn : N ∣ M) : Szf B M f := ⟨h.pos, Nat.dvd_trans h.dvd hn, Nat.le_trans h.le (Nat.mul_le_mul_right _ ha)⟩
theorem low_parts {u l : Int} (h : 0 < l) : fru u l * (Int.gcd u l : Nat) = u ∧ frl u l * (Int.gcd u l : Nat) = l ∧ 0 < frl u l ∧ Nat.gcd (fru u l).natAbs (frl u l).natAbs = 1 := by
  have e : fpt u l = (Int.gcd u l : Nat) := if_neg (by omega)
  obtain ⟨f1, f2, _, _⟩ := fx_low (u := u) h
  have d1 : ((Int.gcd u l : Nat) : Int) ∣ u := Int.gcd_dvd_left _ _
  have d2 : ((Int.gcd u l : Nat) : Int) ∣ l := Int.gcd_dvd_right _ _
  unfold fru frl
  rw [e]
  exact ⟨Int.fdiv_mul_cancel d1, Int.fdiv_mul_cancel d2, f1, f2⟩
theorem Szf.bits {A N n m : Nat} {f : Fx} (h : Szf A N f) (hN : N < 2 ^ n) (hA : A < 2 ^ m) (h0 : 0 < N) : Bits n f.2 ∧ Bits (m + n) f.1 := by
  have l2 : f.2.natAbs ≤ N := Nat.le_of_dvd h0 h.dvd
  refine ⟨Nat.lt_of_le_of_lt l2 hN, ?_⟩
  show f.1.natAbs < 2 ^ (m + n)
  refine Nat.lt_of_le_of_lt h.le ?_
  rw [Nat.pow_add]
  refine Nat.lt_of_le_of_lt (Nat.mul_le_mul_left _ l2) ?_
  exact Nat.mul_lt_mul'' hA hN
def stepF (f : Fx) (x : List Fx × Option Int) : Fx := match x.2 with
  | none => f
  | some i => mulF f (x.1.getD i.toNat (0, 1))
def prodF (f : Fx) (l : List (List Fx × Option Int)) : Fx := l.foldl stepF f
def plusF (parts : List (List Fx)) (f : Fx) (t : Tm) : Fx := addF f (prodF t.1 (parts.zip t.2))
def sumF (parts : List (List Fx)) (s : Sm) : Fx := s.foldl (plusF parts) (0, 1)
def madeF (parts : List (List Fx)) (r : Rl) : List Fx := r.map (sumF parts)
/-- a sum's terms fit: as many boxes as parts, each there, no product too great -/
structure FitS (A N : Nat) (parts : List (List Fx)) (s : Sm) : Prop where
  many : s.length ≤ 6
  term : ∀ t ∈ s, t.2.length = parts.length ∧ (∀ (j : Nat) (p : List Fx) (i : Int), parts[j]? = some p → t.2[j]? = some (some i) → 0 ≤ i ∧ i < (p.length : Nat)) ∧ ∀ j, Szf A N (prodF t.1 ((parts.zip t.2).take j))
structure FitP (A N : Nat) (parts : List (List Fx)) : Prop where
  nat : 0 < N
  lower : N < 2 ^ 4200
  upper : 6 * A < 2 ^ 1000
  part : ∀ p ∈ parts, ∀ f ∈ p, Szf A N f
theorem FitP.num {A N : Nat} {parts : List (List Fx)} (h : FitP A N parts) {B : Nat} {f : Fx} (hB : B ≤ 6 * A) (s : Szf B N f) : 0 < f.2 ∧ Bits 6000 f.1 ∧ Bits 4400 f.2 := by
  have z := s.bits h.lower (Nat.lt_of_le_of_lt hB h.upper) h.nat
  exact ⟨s.pos, z.2.le, z.1.le⟩
end Bk
set_option Elab.async false
set_option linter.all false
set_option maxRecDepth 100000
set_option maxHeartbeats 4000000
/-! Bk30: zip(a, b, c) of lists and tuples of one length. -/
namespace Bk
open PySem PySem.Spec PyProof.Rows L2
end Bk
set_option Elab.async false
set_option linter.all false
set_option maxRecDepth 100000
set_option maxHeartbeats 4000000
/-! Bk31: readers as deeds. -/
namespace Bk
open PySem PySem.Spec PyProof.Rows L2
inductive Dd where
  | put (f : Fx) | take (p : Nat) (b : Int) | times | plus
/-! ### contracts -/
end Bk
set_option Elab.async false
set_option linter.all false
set_option maxRecDepth 100000
set_option maxHeartbeats 4000000
/-! Bk32: deeds done on a bench. -/
namespace Bk
open PySem PySem.Spec PyProof.Rows L2
def NumOk (f : Fx) : Prop := 0 < f.2 ∧ Bits 6000 f.1 ∧ Bits 4400 f.2
def Run (parts : List (List Fx)) : List Fx → List Dd → List Fx → Prop
  | st, [], fin => st = fin
  | st, .put f :: ds, fin => Run parts (f :: st) ds fin
  | st, .take p i :: ds, fin => ∃ pl, parts[p]? = some pl ∧ 0 ≤ i ∧ i < (pl.length : Nat) ∧ Run parts (pl.getD i.toNat (0, 1) :: st) ds fin
  | st, .times :: ds, fin => ∃ x y r, st = x :: y :: r ∧ NumOk x ∧ NumOk y ∧ Run parts (mulF x y :: r) ds fin
  | st, .plus :: ds, fin => ∃ x y r, st = x :: y :: r ∧ NumOk x ∧ NumOk y ∧ Run parts (addF x y :: r) ds fin
theorem Run.app {parts : List (List Fx)} {b : List Dd} {s1 fin : List Fx} : ∀ {a : List Dd} {st : List Fx}, Run parts st a s1 → Run parts s1 b fin → Run parts st (a ++ b) fin
  | [], st, h, k => by
    have e : st = s1 := h
    subst e
    exact k
  | .put f :: a, st, h, k => Run.app (a := a) (show Run parts (f :: st) a s1 from h) k
  | .take p i :: a, st, h, k => by
    obtain ⟨pl, h1, h2, h3, h4⟩ := h
    exact ⟨pl, h1, h2, h3, Run.app h4 k⟩
  | .times :: a, st, h, k => by
    obtain ⟨x, y, r, h1, h2, h3, h4⟩ := h
    exact ⟨x, y, r, h1, h2, h3, Run.app h4 k⟩
  | .plus :: a, st, h, k => by
    obtain ⟨x, y, r, h1, h2, h3, h4⟩ := h
    exact ⟨x, y, r, h1, h2, h3, Run.app h4 k⟩
def LowF (f : Fx) : Prop := 0 < f.2 ∧ Int.gcd f.1 f.2 = 1
/-! ### the same fractions compared -/
end Bk
set_option Elab.async false
set_option linter.all false
set_option maxRecDepth 100000
set_option maxHeartbeats 4000000
/-! Bk33: small fractions in boxes; readers told as deeds. -/
namespace Bk
open PySem PySem.Spec PyProof.Rows L2
theorem FxOk.low {f : Fx} (h : FxOk f) : LowF f := ⟨h.1, h.2.1⟩
/-- a box, a wood, a reader asked about -/
def AskedAt (H : Hp) (x : V) : Prop := ∃ (a p : Addr) (w : Wd) (r : Rd) (wv rv : V), x = .ref a ∧ H a = some (.tup [.ref p, wv, rv]) ∧ Box H p ∧ Rep H (woodD w) wv ∧ WoodOk w ∧ Rep H (rdD r) rv ∧ RdOk w r
theorem AskedAt.ex {H H' : Hp} {x : V} (h : AskedAt H x) (e : Ex H H') : AskedAt H' x := by
  obtain ⟨a, p, w, r, wv, rv, h1, h2, h3, h4, h5, h6, h7⟩ := h
  exact ⟨a, p, w, r, wv, rv, h1, e _ _ h2, h3.ex e, h4.ex e, h5, h6.ex e, h7⟩
theorem AskedAt.kp {H H' : Hp} {x : V} {q : Addr} (h : AskedAt H x) (k : Kp q H H') : AskedAt H' x := by
  obtain ⟨a, p, w, r, wv, rv, h1, h2, h3, h4, h5, h6, h7⟩ := h
  refine ⟨a, p, w, r, wv, rv, h1, k.2.2 _ _ h2, ?_, h4.tk k.2.2 (wood_hard w), h5, h6.tk k.2.2 (rd_hard r), h7⟩
  by_cases c : p = q
  · subst c
    exact k.2.1
  · exact h3.but k.1 c
theorem Box.neL {H : Hp} {p a : Addr} {xs : List V} (b : Box H p) (h : H a = some (.lst xs)) (hx : ∀ x ∈ xs, ∀ n : Int, x ≠ .int n) : a ≠ p := fun z => by
  obtain ⟨u, v, w, hp⟩ := b
  rw [z, hp] at h
  cases h
  exact hx _ List.mem_cons_self u rfl
theorem AskedAt.put {H : Hp} {x : V} {l : Addr} {xs ys : List V} (h : AskedAt H x) (hl : H l = some (.lst xs)) (hx : ∀ x ∈ xs, ∀ n : Int, x ≠ .int n) : AskedAt (upd H l (.lst ys)) x := by
  obtain ⟨a, p, w, r, wv, rv, h1, h2, h3, h4, h5, h6, h7⟩ := h
  have t := tk_put (ys := ys) hl
  exact ⟨a, p, w, r, wv, rv, h1, t _ _ h2, h3.at_upd (h3.neL hl hx), h4.tk t (wood_hard w), h5, h6.tk t (rd_hard r), h7⟩
end Bk
set_option Elab.async false
set_option linter.all false
set_option maxRecDepth 100000
set_option maxHeartbeats 4000000
/-! Bk34: trees read by readers. -/
namespace Bk
open PySem PySem.Spec PyProof.Rows L2
/-! ### a tree's rows, one after the other -/
def ruleOf (w : Wd) (r : Rd) (s : Str) : Rl := match ((tabFrom 0 w).zip r.2).find? (fun x => decide (x.1.2.1 = s)) with
  | some x => x.2
  | none => []
def partsF (acc : List (List Fx)) (ns : List Int) : List (List Fx) := ns.map fun n => acc.getD n.toNat []
def rowF (w : Wd) (r : Rd) (acc : List (List Fx)) (row : Str × List Int) : List Fx := madeF (partsF acc row.2) (ruleOf w r row.1)
def readF (w : Wd) (r : Rd) (t : Tr) : List (List Fx) := t.foldl (fun acc row => acc ++ [rowF w r acc row]) []
structure RowFit (w : Wd) (r : Rd) (acc : List (List Fx)) (row : Str × List Int) : Prop where
  made : ∃ (j : Nat) (e : Nat × Mk), (tabFrom 0 w)[j]? = some e ∧ e.2.1 = row.1 ∧ r.2[j]? = some (ruleOf w r row.1)
  idx : ∀ n ∈ row.2, 0 ≤ n ∧ n < (acc.length : Nat)
  two : row.2.length ≤ 2
  rule : (ruleOf w r row.1).length ≤ 10
  fits : ∃ A N, FitP A N (partsF acc row.2) ∧ ∀ s ∈ ruleOf w r row.1, FitS A N (partsF acc row.2) s
def TreeFit (w : Wd) (r : Rd) (t : Tr) : Prop := ∀ (i : Nat) (row : Str × List Int), t[i]? = some row → RowFit w r (readF w r (t.take i)) row
/-! ### how great the rows' trees are -/
structure SzsOk (size : Int) (t : Tr) (szs : List Int) : Prop where
  le : ∀ s ∈ szs, 1 ≤ s ∧ s ≤ size
  row : ∀ (j : Nat) (r : Str × List Int), t[j]? = some r → szs[j]? = some (1 + (r.2.map fun n => szs.getD n.toNat 0).sum) ∧ ∀ n ∈ r.2, 0 ≤ n ∧ n < (j : Int)
theorem SzsOk.nil {size : Int} : SzsOk size [] [] := ⟨fun s h => (nomatch h), fun j r h => by simp at h⟩
theorem sum_nonneg : ∀ {l : List Int}, (∀ x ∈ l, 0 ≤ x) → 0 ≤ l.sum
  | [], _ => Int.le_refl _
  | x :: l, h => by
    have a := h x List.mem_cons_self
    have b := sum_nonneg (l := l) fun y hy => h y (List.mem_cons_of_mem _ hy)
    rw [List.sum_cons]
    omega
theorem SzsOk.app {size m : Int} {t : Tr} {szs : List Int} {r : Str × List Int} (h : SzsOk size t szs) (hl : szs.length = t.length) (hm : m ≤ size) (em : m = 1 + (r.2.map fun n => szs.getD n.toNat 0).sum) (hr : ∀ n ∈ r.2, 0 ≤ n ∧ n < (t.length : Int)) : SzsOk size (t ++ [r]) (szs ++ [m]) := by
  have old : ∀ (ns : List Int) (j : Nat), j ≤ t.length → (∀ n ∈ ns, 0 ≤ n ∧ n < (j : Int)) → (ns.map fun n => (szs ++ [m]).getD n.toNat 0) = ns.map fun n => szs.getD n.toNat 0 := fun ns j hj hn => by
    refine List.map_congr_left fun n h' => ?_
    have := hn n h'
    rw [List.getD_eq_getElem?_getD, List.getD_eq_getElem?_getD, List.getElem?_append_left (by omega)]
  have pos : 0 ≤ (r.2.map fun n => szs.getD n.toNat 0).sum := sum_nonneg fun x hx => by
    obtain ⟨n, hn, rfl⟩ := List.mem_map.1 hx
    have := hr n hn
    rw [List.getD_eq_getElem?_getD, List.getElem?_eq_getElem (by omega)]
    have := (h.le _ (List.getElem_mem (show n.toNat < szs.length by omega))).1
    exact Int.le_trans (by decide) this
  refine ⟨fun s hs => ?_, fun j q hq => ?_⟩
  · rcases List.mem_append.1 hs with hs | hs
    · exact h.le s hs
    · rw [List.mem_singleton.1 hs]
      omega
  · rcases Nat.lt_or_ge j t.length with c | c
    · rw [List.getElem?_append_left c] at hq
      obtain ⟨a, b⟩ := h.row j q hq
      refine ⟨?_, b⟩
      rw [old q.2 j (Nat.le_of_lt c) b, List.getElem?_append_left (by omega)]
      exact a
    · rw [List.getElem?_append_right c] at hq
      have ej : j = t.length := by
        have := (List.getElem?_eq_some_iff.1 hq).1
        rw [List.length_singleton] at this
        omega
      subst ej
      rw [Nat.sub_self] at hq
      cases hq
      refine ⟨?_, hr⟩
      rw [old r.2 t.length (Nat.le_refl _) hr, List.getElem?_append_right (by omega), hl, Nat.sub_self, em]
      rfl
end Bk
set_option Elab.async false
set_option linter.all false
set_option maxRecDepth 100000
set_option maxHeartbeats 4000000
/-! Bk35: how great the fractions in a tree's boxes become. -/
namespace Bk
open PySem PySem.Spec PyProof.Rows L2
structure PartsAt (w : Wd) (r : Rd) (t : Tr) (i : Nat) (row : Str × List Int) (j : Nat) (e : Nat × Mk) : Prop where
  tab : (tabFrom 0 w)[j]? = some e
  nm : e.2.1 = row.1
  len : row.2.length = (dueOf w e).length
  two : row.2.length ≤ 2
  idx : ∀ (u : Nat) (n : Int), row.2[u]? = some n → 0 ≤ n ∧ n < (i : Int) ∧ ∃ q, t[n.toNat]? = some q ∧ (dueOf w e)[u]? = some (kindAt w q.1)
  kind : kindAt w row.1 = (e.1 : Nat)
/-! ### small whole numbers, one box in a term -/
end Bk
set_option Elab.async false
set_option linter.all false
set_option maxRecDepth 100000
set_option maxHeartbeats 4000000
/-! Bk36: thin readers; what k15 asks about. -/
namespace Bk
open PySem PySem.Spec PyProof.Rows L2
def AskedT (H : Hp) (x : V) : Prop := ∃ (a : Addr) (w : Wd) (r : Rd) (t : Tr) (wv rv tv : V), x = .ref a ∧ H a = some (.tup [wv, rv, tv]) ∧ Rep H (woodD w) wv ∧ WoodOk w ∧ Rep H (rdD r) rv ∧ RdOk w r ∧ Rep H (treeD t) tv ∧ t.length ≤ 60 ∧ t ≠ [] ∧ TreeFit w r t
theorem AskedT.tk {H H' : Hp} {x : V} (h : AskedT H x) (e : Tk H H') : AskedT H' x := by
  obtain ⟨a, w, r, t, wv, rv, tv, h1, h2, h3, h4, h5, h6, h7, h8⟩ := h
  exact ⟨a, w, r, t, wv, rv, tv, h1, e _ _ h2, h3.tk e (wood_hard w), h4, h5.tk e (rd_hard r), h6, h7.tk e (tree_hard t), h8⟩
end Bk
set_option Elab.async false
set_option linter.all false
set_option maxRecDepth 100000
set_option maxHeartbeats 4000000
/-! Bk37: names drawn, alike but at one place (the later laws' names). -/
namespace Bk
open PySem PySem.Spec PyProof.Rows L2
def baseL (st : List Nat) (a f k : Nat) : List Nat := st.take a ++ (97 + (f + 7 * k) % 26) :: st.drop a
def fullL (st : List Nat) (a f k : Nat) : List Nat := baseL st a f k ++ (if k % 3 = 1 then [106] else [])
def jjL (k : Nat) : List Nat := [106, 106, 97 + k % 26, 97 + k / 26]
def kindL : List Nat := [107, 105, 110, 100]
theorem kindL_eq : (Str.ofString "kind").cps.toList = kindL := by decide +kernel
theorem baseL_len {st : List Nat} {a f k : Nat} (h : a ≤ st.length) : (baseL st a f k).length = st.length + 1 := by
  unfold baseL
  rw [List.length_append, List.length_cons, List.length_take, List.length_drop]
  omega
theorem baseL_inj {st : List Nat} {a f i j : Nat} (hi : i < 26) (hj : j < 26) (h : baseL st a f i = baseL st a f j) : i = j := by
  unfold baseL at h
  have z := (List.cons.inj (List.append_cancel_left h)).1
  omega
theorem fullL_inj {st : List Nat} {a f i j : Nat} (ha : a ≤ st.length) (hi : i < 26) (hj : j < 26) (h : fullL st a f i = fullL st a f j) : i = j := by
  unfold fullL at h
  have l1 := baseL_len (f := f) (k := i) ha
  have l2 := baseL_len (f := f) (k := j) ha
  have hl := congrArg List.length h
  rw [List.length_append, List.length_append, l1, l2] at hl
  by_cases c1 : i % 3 = 1 <;> by_cases c2 : j % 3 = 1
  · rw [if_pos c1, if_pos c2] at h
    exact baseL_inj hi hj (List.append_cancel_right h)
  · rw [if_pos c1, if_neg c2] at hl
    simp at hl
  · rw [if_neg c1, if_pos c2] at hl
    simp at hl
  · rw [if_neg c1, if_neg c2] at h
    exact baseL_inj hi hj (List.append_cancel_right h)
theorem full_jj {st : List Nat} {a f i j k : Nat} (ha : a ≤ st.length) (hk : k < 26) (h : fullL st a f i = kindL) : fullL st a f j ≠ jjL k := by
  intro z
  have l1 := congrArg List.length h
  have l2 := congrArg List.length z
  unfold fullL at l1 l2 h z
  rw [List.length_append, baseL_len ha] at l1 l2
  have e4 : kindL.length = 4 := rfl
  have e5 : (jjL k).length = 4 := rfl
  rw [e4] at l1
  rw [e5] at l2
  by_cases c1 : i % 3 = 1
  · rw [if_pos c1] at l1 h
    have l3 : st.length = 2 := by simp at l1; omega
    match st, l3 with
    | [x, y], _ =>
      have : a = 0 ∨ a = 1 ∨ a = 2 := by simp at ha; omega
      rcases this with rfl | rfl | rfl <;> simp [baseL, kindL] at h
  · rw [if_neg c1] at l1 h
    have l3 : st.length = 3 := by simp at l1; omega
    have c2 : ¬ j % 3 = 1 := fun c => by
      rw [if_pos c] at l2
      simp at l2
      omega
    rw [if_neg c2] at z
    match st, l3 with
    | [x, y, u], _ =>
      have : a = 0 ∨ a = 1 ∨ a = 2 ∨ a = 3 := by simp at ha; omega
      rcases this with rfl | rfl | rfl | rfl
      · simp [baseL, kindL] at h
        simp [baseL, jjL] at z
        omega
      · simp [baseL, kindL] at h
        simp [baseL, jjL] at z
        omega
      · simp [baseL, kindL] at h
        simp [baseL, jjL] at z
        omega
      · simp [baseL, kindL] at h
        simp [baseL, jjL] at z
        omega
/-- the names so far -/
def NmAt (st : List Nat) (a f j : Nat) (s : Str) : Prop := (fullL st a f j ≠ kindL ∧ s.cps.toList = fullL st a f j) ∨ (fullL st a f j = kindL ∧ s.cps.toList = jjL j)
theorem nm_new {st : List Nat} {a f i : Nat} {ss : List Str} (ha : a ≤ st.length) (hi : i < 26) (hl : ss.length = i) (h : ∀ (j : Nat) (s : Str), ss[j]? = some s → NmAt st a f j s) :
    (∀ s : Str, s.cps.toList = fullL st a f i → s ∉ ss) ∧ ∀ s, NmAt st a f i s → s ∉ ss := by
  have k1 : ∀ s : Str, s.cps.toList = fullL st a f i → s ∉ ss := fun s e hm => by
    obtain ⟨j, hj⟩ := List.mem_iff_getElem?.1 hm
    have lj := (List.getElem?_eq_some_iff.1 hj).1
    rcases h j s hj with ⟨_, e2⟩ | ⟨e1, e2⟩
    · have := fullL_inj ha hi (by omega) (e.symm.trans e2)
      omega
    · exact full_jj ha (by omega) e1 (e.symm.trans e2)
  refine ⟨k1, fun s hs => ?_⟩
  rcases hs with ⟨_, e⟩ | ⟨e1, e2⟩
  · exact k1 s e
  · intro hm
    obtain ⟨j, hj⟩ := List.mem_iff_getElem?.1 hm
    have lj := (List.getElem?_eq_some_iff.1 hj).1
    rcases h j s hj with ⟨_, e3⟩ | ⟨e3, _⟩
    · exact full_jj ha hi e1 (e3.symm.trans e2)
    · have := fullL_inj ha hi (by omega) (e1.trans e3.symm)
      omega
theorem nm_is {st : List Nat} {a f i : Nat} {s : Str} (ha : a ≤ st.length) (hi : i < 26) (hs : ∀ c ∈ st, c ∈ lettersS.cps.toList) (h4 : st.length ≤ 4) (h : NmAt st a f i s) : isName s = true := by
  have low : ∀ c ∈ fullL st a f i, c ∈ lettersS.cps.toList := fun c hc => by
    unfold fullL baseL at hc
    simp only [List.mem_append, List.mem_cons] at hc
    rcases hc with (hc | hc | hc) | hc
    · exact hs c (List.mem_of_mem_take hc)
    · exact letters_mem.2 ⟨(f + 7 * i) % 26, Nat.mod_lt _ (by decide), hc⟩
    · exact hs c (List.mem_of_mem_drop hc)
    · split at hc
      · rw [List.mem_singleton.1 hc]
        exact letters_mem.2 ⟨9, by decide, rfl⟩
      · cases hc
  have lb := baseL_len (f := f) (k := i) ha
  rcases h with ⟨n, e⟩ | ⟨_, e⟩
  · have ll : s.length = (fullL st a f i).length := by rw [str_len, e]
    unfold fullL at ll
    rw [List.length_append, lb] at ll
    have lx : (if i % 3 = 1 then [106] else ([] : List Nat)).length ≤ 1 := by split <;> simp
    exact isName_of (fun c hc => low c (by rw [← e]; exact hc)) (by omega) (by omega) fun z => n (by rw [← e, z]; exact kindL_eq)
  · have ll : s.length = 4 := by rw [str_len, e]; rfl
    refine isName_of (fun c hc => ?_) (by omega) (by omega) fun z => ?_
    · rw [e] at hc
      simp only [jjL, List.mem_cons, List.not_mem_nil, or_false] at hc
      rcases hc with rfl | rfl | rfl | rfl
      · exact letters_mem.2 ⟨9, by decide, rfl⟩
      · exact letters_mem.2 ⟨9, by decide, rfl⟩
      · exact letters_mem.2 ⟨i % 26, Nat.mod_lt _ (by decide), rfl⟩
      · exact letters_mem.2 ⟨i / 26, by omega, rfl⟩
    · rw [z, kindL_eq] at e
      simp [kindL, jjL] at e
def spNames2 : Sp := fun vs H Q _ => ∃ (p : Addr) (many : Nat), vs = [.ref p, .int (many : Nat)] ∧ Box H p ∧ many ≤ 26 ∧ ∀ (l : Addr) (ss : List Str) (H' : Hp), ss.length = many → (∀ s ∈ ss, isName s = true) → ss.Nodup → H l = none → But p H H' → Box H' p → H' l = some (.lst (ss.map V.str)) → Q (.ref l) H'
theorem letters_mod {a : Int} {n : Nat} (h : a = (n : Int)) : atI lettersS.cps.toList (a.fmod 26) = some (97 + n % 26) := by
  subst h
  have e : Int.fmod (n : Int) 26 = ((n % 26 : Nat) : Int) := by
    rw [Int.fmod_eq_emod_of_nonneg _ (by decide)]
    rfl
  rw [e]
  exact atI_nat (letters_at (Nat.mod_lt _ (by decide)))
theorem letters_div {a : Int} {n : Nat} (h : a = (n : Int)) (hn : n < 676) : atI lettersS.cps.toList (a.fdiv 26) = some (97 + n / 26) := by
  subst h
  have e : Int.fdiv (n : Int) 26 = ((n / 26 : Nat) : Int) := by
    rw [Int.fdiv_eq_ediv_of_nonneg _ (by decide)]
    rfl
  rw [e]
  exact atI_nat (letters_at (by omega))
theorem name_list {stem : Str} {at' c : Nat} (h : at' ≤ stem.length) : ((cutS stem none (some (at' : Int)) ++ ⟨#[c]⟩) ++ cutS stem (some (at' : Int)) none).cps.toList = stem.cps.toList.take at' ++ c :: stem.cps.toList.drop at' := by
  rw [app_list, app_list, cut_to h, cut_from h, List.append_assoc]
  rfl
theorem row_le : ∀ {R : List (List Mk)} {q : Nat} {r : List Mk}, R[q]? = some r → r.length ≤ (rowNames R).length
  | [], q, r, h => by simp at h
  | s :: R, q, r, h => by
    show _ ≤ (s.map Prod.fst ++ rowNames R).length
    rw [List.length_append, List.length_map]
    cases q with
    | zero => cases h; omega
    | succ q =>
      have := row_le (R := R) (q := q) h
      omega
end Bk
set_option Elab.async false
set_option linter.all false
set_option maxRecDepth 100000
set_option maxHeartbeats 4000000
/-! Bk38: dicts whose keys are (text, (whole numbers)). -/
namespace Bk
open PySem PySem.Spec PyProof.Rows L2
/-- a mark: a name and whole numbers -/
abbrev Mark := Str × List Int
def nk (m : Mark) : NestedKey := .tup [.text m.1, .tup (m.2.map NestedKey.num)]
theorem nums_inj : ∀ {a b : List Int}, a.map NestedKey.num = b.map NestedKey.num → a = b
  | [], [], _ => rfl
  | [], _ :: _, h => nomatch h
  | _ :: _, [], h => nomatch h
  | x :: a, y :: b, h => by
    rw [List.map_cons, List.map_cons] at h
    injection h with h1 h2
    injection h1 with h1
    rw [h1, nums_inj h2]
theorem nk_inj {a b : Mark} (h : nk a = nk b) : a = b := by
  unfold nk at h
  injection h with h
  injection h with h1 h2
  injection h1 with h1
  injection h2 with h2 _
  injection h2 with h2
  exact Prod.ext h1 (nums_inj h2)
/-- the mark m stands at a -/
def MarkAt (H : Hp) (a : Addr) (m : Mark) : Prop := ∃ t, H a = some (.tup [.str m.1, .ref t]) ∧ H t = some (.tup (m.2.map V.int))
theorem MarkAt.tk {H H' : Hp} {a : Addr} {m : Mark} (t : Tk H H') (h : MarkAt H a m) : MarkAt H' a m := by
  obtain ⟨q, a1, a2⟩ := h
  exact ⟨q, t _ _ a1, t _ _ a2⟩
/-- the entries: mark, its address, what is held -/
abbrev Nx : List (Mark × Addr × V) → List (NestedKey × Addr × Value) → Prop := Paired fun p q => q.1 = nk p.1 ∧ q.2.1 = p.2.1 ∧ RelV p.2.2 q.2.2
def kvm (ps : List (Mark × Addr × V)) : List (Mark × V) := ps.map fun p => (p.1, p.2.2)
def NdO (P : Program) (w : World) (a : Addr) (ps : List (Mark × Addr × V)) : HO := .ext fun h => ps.length ≤ sizeLine ∧ (a == sysModules) = false ∧ ∃ xs, Nx ps xs ∧
  ∃ o es ep, h.get? a = some o ∧ o.ExactDict ∧ o.data = .dict es ep ∧ es.toList = xs.map (entryOfKey (nestedKind P w)) ∧ (xs.map (·.1)).Nodup
/-- the dict at a has these entries -/
def NdAt (P : Program) (w : World) (H : Hp) (a : Addr) (ps : List (Mark × Addr × V)) : Prop := (H a = some (NdO P w a ps) ∨ (ps = [] ∧ H a = some (.dK []))) ∧ ∀ p ∈ ps, MarkAt H p.2.1 p.1
section
variable {P : Program} {w : World} {H : Hp} {h : Heap} {a : Addr} {ps : List (Mark × Addr × V)}
theorem NdAt.notTup (g : NdAt P w H a ps) : ∀ b ys, H b = some (.tup ys) → b ≠ a := fun b ys e z => by
  subst z
  rcases g.1 with q | ⟨_, q⟩
  · rw [e] at q
    cases q
  · rw [e] at q
    cases q
theorem NdAt.at_some (g : NdAt P w H a ps) : H a = some ((H a).getD (.dK [])) := by
  rcases g.1 with e | ⟨_, e⟩ <;> rw [e] <;> rfl
theorem NdAt.ex {H' : Hp} (g : NdAt P w H a ps) (e : Ex H H') : H' a = H a := by
  rw [g.at_some]
  exact e _ _ g.at_some
theorem Nx.val {xs : List (NestedKey × Addr × Value)} (r : Nx ps xs) (m : Mark) : RelO (valV (kvm ps) m) ((atKey xs (nk m)).map (·.2)) := by
  induction r with
  | nil => exact True.intro
  | @cons p q ps qs h t ih =>
    obtain ⟨h1, _, h2⟩ := h
    by_cases e : p.1 = m
    · have e' : q.1 = nk m := by rw [h1, e]
      have b : atKey (q :: qs) (nk m) = some q.2 := by simp [atKey, List.find?_cons, e']
      rw [b]
      show RelO (valV ((p.1, p.2.2) :: kvm ps) m) _
      rw [valV_pos (p := (p.1, p.2.2)) e]
      exact h2
    · have e' : ¬ q.1 = nk m := fun z => e (nk_inj (h1.symm.trans z))
      have b : atKey (q :: qs) (nk m) = atKey qs (nk m) := by simp [atKey, List.find?_cons, e']
      rw [b]
      show RelO (valV ((p.1, p.2.2) :: kvm ps) m) _
      rw [valV_neg (p := (p.1, p.2.2)) e]
      exact ih
theorem Nx.len {xs : List (NestedKey × Addr × Value)} (r : Nx ps xs) : ps.length = xs.length := Paired.length r
theorem Nx.new {xs : List (NestedKey × Addr × Value)} (r : Nx ps xs) {m : Mark} (hv : valV (kvm ps) m = none) : atKey xs (nk m) = none := by
  have := r.val m
  rw [hv] at this
  cases c : atKey xs (nk m) with
  | none => rfl
  | some p =>
    rw [c] at this
    exact (this : False).elim
theorem NdAt.keep {H' : Hp} (g : NdAt P w H a ps) (ha : H' a = H a) (t : Tk H H') : NdAt P w H' a ps := ⟨by rw [ha]; exact g.1, fun p hp => (g.2 p hp).tk t⟩
/-- an entry put behind -/
theorem NdAt.snoc (g : NdAt P w H a ps) {m : Mark} {b : Addr} (hb : MarkAt H b m) (v : V) : NdAt P w (upd H a (NdO P w a (ps ++ [(m, b, v)]))) a (ps ++ [(m, b, v)]) := by
  have t : Tk H (upd H a (NdO P w a (ps ++ [(m, b, v)]))) := fun c ys e => by
    rw [upd_ne (g.notTup c ys e)]
    exact e
  refine ⟨.inl upd_same, fun p hp => ?_⟩
  rcases List.mem_append.1 hp with hp | hp
  · exact (g.2 p hp).tk t
  · rw [List.mem_singleton.1 hp]
    exact hb.tk t
end
end Bk
set_option Elab.async false
set_option linter.all false
set_option maxRecDepth 100000
set_option maxHeartbeats 4000000
/-! Bk39: printers as data, drawn. -/
namespace Bk
open PySem PySem.Spec PyProof.Rows L2
/-! ### list(text) -/
def ones (x : Str) : List V := x.cps.toList.map fun c => V.str (one c)
def rListS : List V → Hp → VK → Prop := fun xs H Q => ∃ x : Str, xs = [.str x] ∧ x.length ≤ 1000000 ∧ ∀ l, H l = none → Q (.ref l) (upd H l (.lst (ones x)))
theorem call_listS {X : Cx} (hc : X.calm = true) : CallR X (.type "list") rListS := by
  intro pins s σ H xs us Q I r h
  obtain ⟨x, rfl, hz, q⟩ := h
  obtain ⟨u, rfl, rx⟩ := vals1 r
  obtain ⟨t, rfl⟩ := rx
  have hz2 : x.cps.size ≤ sizeLine := Nat.le_trans hz (by decide)
  refine call_list_str (hn := hz2) (I.ok.hd hc) x t fun h' tk acc' c' hk hS hacc => ?_
  refine ⟨.ref s.heap.objs.size, _, I.laid (t' := tk) (o := .lst (ones x)) hk (Nat.le_refl _) ⟨by unfold ones; rw [List.length_map]; simpa using hz2, acc'.toList, c', ?_, by rw [Array.toArray_toList]; exact hS⟩, rfl, q _ (I.hok.fresh (Nat.le_refl _))⟩
  refine vals_of_idx _ _ (by unfold ones; rw [List.length_map, Array.length_toList, hacc.1]; simp) fun j v hv => ?_
  obtain ⟨c, u2, hcc, rfl⟩ := hacc.2 j v (by rw [← Array.getElem?_toList]; exact hv)
  exact ⟨V.str (one c), by unfold ones; simp [hcc], ⟨_, rfl⟩⟩
theorem g_listS {x : Str} {H : Hp} {Q : VK} (hz : x.length ≤ 1000000) (h : ∀ l, H l = none → Q (.ref l) (upd H l (.lst (ones x)))) : rListS [.str x] H Q := ⟨x, rfl, hz, h⟩
def signL : List Nat := (List.range 127).filter fun c => decide (33 ≤ c ∧ c ≠ 37)
def signS : Str := "!\"#$&'()*+,-./0123456789:;<=>?@ABCDEFGHIJKLMNOPQRSTUVWXYZ[\\]^_`abcdefghijklmnopqrstuvwxyz{|}~"
theorem signS_list : signS.cps.toList = signL := by decide +kernel
theorem signL_len : signL.length = 93 := by decide +kernel
theorem signL_nd : signL.Nodup := List.filter_sublist.nodup List.nodup_range
theorem signL_low {c : Nat} (h : c ∈ signL) : 33 ≤ c ∧ c ≤ 126 ∧ c ≠ 37 := by
  obtain ⟨a, b⟩ := List.mem_filter.1 h
  have := List.mem_range.1 a
  have := of_decide_eq_true b
  omega
def sgV (c : Nat) : V := V.str (one c)
/-! ### printers -/
abbrev Itm := Str ⊕ (Int × Int)
def bdD (b : Int × Int) : D := .tup [.int b.1, .int b.2]
def itD : Itm → D
  | .inl s => .str s
  | .inr b => bdD b
def rwD (r : List Itm) : D := .tup (r.map itD)
def rpD (x : List (List Itm)) : D := .tup (x.map rwD)
abbrev Prn := Str × List Int × List (List (List Itm))
def prD (p : Prn) : D := .tup [.str p.1, .tup (p.2.1.map D.int), .tup (p.2.2.map rpD)]
theorem it_hard (i : Itm) : (itD i).hard = true := by cases i <;> rfl
theorem bd_hard (b : Int × Int) : (bdD b).hard = true := rfl
theorem rw_hard (r : List Itm) : (rwD r).hard = true := hards_map it_hard r
theorem rp_hard (x : List (List Itm)) : (rpD x).hard = true := hards_map rw_hard x
theorem pr_hard (p : Prn) : (prD p).hard = true := by
  show (true && (D.hards (p.2.1.map D.int) && (D.hards (p.2.2.map rpD) && true))) = true
  rw [ints_hard, hards_map rp_hard]
  rfl
def boxOf : Itm → Option (Int × Int)
  | .inl _ => none
  | .inr b => some b
structure LtOk (s : Str) : Prop where
  pos : 1 ≤ s.length
  most : s.length ≤ 9
  nd : s.cps.toList.Nodup
  low : ∀ c ∈ s.cps.toList, 33 ≤ c ∧ c ≤ 126 ∧ c ≠ 37
/-- a box of the parts -/
def BxIn (cs ps : List Int) (b : Int × Int) : Prop := (0 ≤ b.1 ∧ b.1 < (ps.length : Nat)) ∧ 0 ≤ b.2 ∧ b.2 < cntAt cs (ps.getD b.1.toNat 0)
def ItOk (ls : Str) (cs ps : List Int) : Itm → Prop
  | .inl s => (1 ≤ s.length ∧ s.length ≤ 8) ∧ ∀ c ∈ s.cps.toList, c ∈ ls.cps.toList
  | .inr b => BxIn cs ps b
structure RpOk (ls : Str) (cs ps : List Int) (n : Int) (x : List (List Itm)) : Prop where
  len : (x.length : Int) = n
  many : x.flatten.length ≤ 6
  item : ∀ i ∈ x.flatten, ItOk ls cs ps i
  once : (x.flatten.filterMap boxOf).Nodup
structure PrOk (w : Wd) (p : Prn) : Prop where
  lets : LtOk p.1
  counts : p.2.1.length = w.length
  count : ∀ c ∈ p.2.1, 0 ≤ c ∧ c ≤ 2
  rules : p.2.2.length = (tabFrom 0 w).length
  rule : ∀ (j : Nat) (e : Nat × Mk) (x : List (List Itm)), (tabFrom 0 w)[j]? = some e → p.2.2[j]? = some x → RpOk p.1 p.2.1 (dueOf w e) (cntAt p.2.1 e.1) x
/-- everything stands but two boxes -/
def But2 (p l : Addr) (H H' : Hp) : Prop := ∀ b o, b ≠ p → b ≠ l → H b = some o → H' b = some o
def spLetters : Sp := fun vs H Q _ => ∃ (p : Addr) (many : Nat), vs = [.ref p, .int (many : Nat)] ∧ Box H p ∧ 1 ≤ many ∧ many ≤ 9 ∧ ∀ (s : Str) (H' : Hp), LtOk s → But p H H' → Box H' p → Q (.str s) H'
def spItemT : Sp := fun vs H Q _ => ∃ (p : Addr) (ls : Str), vs = [.ref p, .str ls] ∧ Box H p ∧ 1 ≤ ls.length ∧ ls.length ≤ 1000 ∧ ∀ (s : Str) (H' : Hp), 1 ≤ s.length → s.length ≤ 8 → (∀ c ∈ s.cps.toList, c ∈ ls.cps.toList) → But p H H' → Box H' p → Q (.str s) H'
def spTextCounts : Sp := fun vs H Q _ => ∃ (p : Addr) (w : Wd) (v : V) (most : Nat), vs = [.ref p, v, .int (most : Nat)] ∧ Box H p ∧ Rep H (woodD w) v ∧ WoodOk w ∧ most ≤ 1000 ∧
  ∀ (c : Addr) (cs : List Int) (H' : Hp), H' c = some (.tup (cs.map V.int)) → cs.length = w.length → (∀ x ∈ cs, 0 ≤ x ∧ x ≤ 2) → But p H H' → Box H' p → Q (.ref c) H'
def spBoxesLeft : Sp := fun vs H Q _ => ∃ (t c : Addr) (ps cs : List Int), vs = [.ref t, .ref c] ∧ H t = some (.tup (ps.map V.int)) ∧ H c = some (.tup (cs.map V.int)) ∧ ps.length ≤ 2 ∧ (∀ n ∈ ps, 0 ≤ n ∧ n < (cs.length : Nat)) ∧ (∀ x ∈ cs, 0 ≤ x ∧ x ≤ 2) ∧
  ∀ (l : Addr) (vs : List V) (bs : List (Int × Int)) (H' : Hp), H l = none → Ex H H' → H' l = some (.lst vs) → Reps H' (bs.map bdD) vs → bs.length ≤ 4 → bs.Nodup → (∀ b ∈ bs, BxIn cs ps b) → Q (.ref l) H'
def spRowsOf : Sp := fun vs H Q _ => ∃ (p l : Addr) (ls : Str) (many : Nat) (cs ps : List Int) (bs : List (Int × Int)) (bv : List V), vs = [.ref p, .str ls, .int (many : Nat), .ref l] ∧ Box H p ∧ 1 ≤ ls.length ∧ ls.length ≤ 1000 ∧ many ≤ 2 ∧
  H l = some (.lst bv) ∧ Reps H (bs.map bdD) bv ∧ bs.length ≤ 4 ∧ bs.Nodup ∧ (∀ b ∈ bs, BxIn cs ps b) ∧
  ∀ (v : V) (x : List (List Itm)) (H' : Hp), RpOk ls cs ps (many : Nat) x → Rep H' (rpD x) v → But2 p l H H' → Box H' p → Q v H'
def spPrinter : Sp := fun vs H Q _ => ∃ (p c : Addr) (w : Wd) (v : V) (ls : Str) (cs : List Int), vs = [.ref p, v, .str ls, .ref c] ∧ Box H p ∧ Rep H (woodD w) v ∧ WoodOk w ∧ LtOk ls ∧ H c = some (.tup (cs.map V.int)) ∧ cs.length = w.length ∧ (∀ x ∈ cs, 0 ≤ x ∧ x ≤ 2) ∧
  ∀ (pr : Prn) (v : V) (H' : Hp), PrOk w pr → Rep H' (prD pr) v → But p H H' → Box H' p → Q v H'
theorem bd_rep {H : Hp} {b : Int × Int} {v : V} (h : Rep H (bdD b) v) : ∃ a, v = .ref a ∧ H a = some (.tup [.int b.1, .int b.2]) := fx_at (f := b) h
theorem Rep.bd {H : Hp} {b : Int × Int} {a : Addr} (h : H a = some (.tup [.int b.1, .int b.2])) : Rep H (bdD b) (.ref a) := Rep.fx (f := b) h
/-! ### lists that are filled row by row -/
structure RowsI (H : Hp) (ras : List Addr) (R : List (List Itm)) : Prop where
  len : ras.length = R.length
  nd : ras.Nodup
  at_ : ∀ (q : Nat) (a : Addr) (r : List Itm), ras[q]? = some a → R[q]? = some r → ∃ us, H a = some (.lst us) ∧ Reps H (r.map itD) us
theorem RowsI.get {H : Hp} {ras : List Addr} {R : List (List Itm)} (h : RowsI H ras R) {q : Nat} (hq : q < R.length) : ∃ a r us, ras[q]? = some a ∧ R[q]? = some r ∧ H a = some (.lst us) ∧ Reps H (r.map itD) us := by
  have hq2 : q < ras.length := by rw [h.len]; exact hq
  obtain ⟨us, a, b⟩ := h.at_ q _ _ (List.getElem?_eq_getElem hq2) (List.getElem?_eq_getElem hq)
  exact ⟨_, _, us, List.getElem?_eq_getElem hq2, List.getElem?_eq_getElem hq, a, b⟩
theorem RowsI.keep {H H' : Hp} {ras : List Addr} {R : List (List Itm)} (h : RowsI H ras R) (t : Tk H H') (k : ∀ a ∈ ras, ∀ us, H a = some (.lst us) → H' a = some (.lst us)) : RowsI H' ras R := ⟨h.len, h.nd, fun q a r ha hr => by
  obtain ⟨us, hu, rs⟩ := h.at_ q a r ha hr
  exact ⟨us, k a (List.mem_of_getElem? ha) us hu, rs.tkm t it_hard⟩⟩
theorem RowsI.put {H : Hp} {ras : List Addr} {R : List (List Itm)} {q : Nat} {a : Addr} {r : List Itm} {us : List V} {m : Itm} {v : V} (h : RowsI H ras R) (ha : ras[q]? = some a) (hr : R[q]? = some r) (hu : H a = some (.lst us)) (rs : Reps H (r.map itD) us) (rv : Rep H (itD m) v) : RowsI (upd H a (.lst (us ++ [v]))) ras (R.set q (r ++ [m])) := by
  have tk : Tk H (upd H a (.lst (us ++ [v]))) := ((But.refl a H).upd).tkl hu
  refine ⟨by rw [List.length_set]; exact h.len, h.nd, fun j b s hb hs => ?_⟩
  by_cases c : q = j
  · subst c
    have hl : q < R.length := (List.getElem?_eq_some_iff.1 hr).1
    rw [List.getElem?_set_self hl] at hs
    cases hs
    rw [ha] at hb
    cases hb
    exact ⟨us ++ [v], upd_same, reps_snoc (rs.tkm tk it_hard) (rv.tk tk (it_hard m))⟩
  · rw [List.getElem?_set_ne c] at hs
    obtain ⟨ws, hw, rw'⟩ := h.at_ j b s hb hs
    have ne : b ≠ a := fun e => False.elim (by
      rw [e] at hb
      have h1 := (List.getElem?_eq_some_iff.1 ha)
      have h2 := (List.getElem?_eq_some_iff.1 hb)
      have z := List.pairwise_iff_getElem.1 h.nd
      rcases Nat.lt_or_gt_of_ne c with l | l
      · exact absurd (h1.2.trans h2.2.symm) (z q j h1.1 h2.1 l)
      · exact absurd (h2.2.trans h1.2.symm) (z j q h2.1 h1.1 l))
    exact ⟨ws, by rw [upd_ne ne]; exact hw, rw'.tkm tk it_hard⟩
theorem flat_put {α : Type} : ∀ (R : List (List α)) (q : Nat) (r : List α) (m : α), R[q]? = some r → (R.set q (r ++ [m])).flatten.Perm (R.flatten ++ [m])
  | [], q, r, m, h => by simp at h
  | s :: R, 0, r, m, h => by
    cases h
    show (s ++ [m] ++ R.flatten).Perm (s ++ R.flatten ++ [m])
    rw [List.append_assoc, List.append_assoc]
    exact List.Perm.append_left s List.perm_append_comm
  | s :: R, q + 1, r, m, h => by
    show (s ++ (R.set q (r ++ [m])).flatten).Perm (s ++ R.flatten ++ [m])
    rw [List.append_assoc]
    exact List.Perm.append_left s (flat_put R q r m h)
theorem row_leF {α : Type} : ∀ {R : List (List α)} {q : Nat} {r : List α}, R[q]? = some r → r.length ≤ R.flatten.length
  | [], q, r, h => by simp at h
  | s :: R, q, r, h => by
    rw [List.flatten_cons, List.length_append]
    cases q with
    | zero => cases h; omega
    | succ q =>
      have := row_leF (R := R) (q := q) h
      omega
theorem perm_erase {α : Type} : ∀ (l : List α) (i : Nat) (x : α), l[i]? = some x → l.Perm (x :: l.eraseIdx i)
  | [], i, x, h => by simp at h
  | a :: l, 0, x, h => by
    cases h
    exact List.Perm.refl _
  | a :: l, i + 1, x, h => by
    show (a :: l).Perm (x :: a :: l.eraseIdx i)
    exact (List.Perm.cons a (perm_erase l i x h)).trans (List.Perm.swap x a _)
theorem Reps.erase {H : Hp} : ∀ {ds : List D} {vs : List V} {i : Nat}, Reps H ds vs → Reps H (ds.eraseIdx i) (vs.eraseIdx i)
  | [], vs, i, h => by
    simp only [Reps] at h
    subst h
    simp only [List.eraseIdx_nil, Reps]
  | d :: ds, vs, i, h => by
    obtain ⟨v, r, rfl, hv, hr⟩ := h
    cases i with
    | zero => exact hr
    | succ i => exact ⟨v, r.eraseIdx i, rfl, hv, Reps.erase hr⟩
theorem box_app (l : List Itm) (i : Itm) : (l ++ [i]).filterMap boxOf = l.filterMap boxOf ++ (match boxOf i with | none => [] | some b => [b]) := by
  rw [List.filterMap_append]
  congr 1
  cases i <;> rfl
end Bk
set_option Elab.async false
set_option linter.all false
set_option maxRecDepth 100000
set_option maxHeartbeats 4000000
/-! Bk40: the later laws' trees: drawn, their sizes. -/
namespace Bk
open PySem PySem.Spec PyProof.Rows L2
structure TreeS (p R Kd : Addr) (w : Wd) (H H1 : Hp) (t : Tr) (rvs : List V) : Prop where
  bx0 : Box H p
  bt : But p H H1
  bx : Box H1 p
  hR : H R = none
  hK : H Kd = none
  RK : R ≠ Kd
  atR : H1 R = some (.lst rvs)
  atK : H1 Kd = some (.lst ((kindsT w t).map V.int))
  reps : Reps H1 (t.map rowD) rvs
  go : goTr w [] t = true
  row : ∀ r ∈ t, TextOk r.1 ∧ r.2.length ≤ 2
section
variable {p R Kd : Addr} {w : Wd} {H H1 H2 : Hp} {t : Tr} {rvs : List V}
theorem TreeS.np (s : TreeS p R Kd w H H1 t rvs) {a : Addr} (ha : H a = none) : a ≠ p := s.bx0.ne ha
theorem TreeS.free (s : TreeS p R Kd w H H1 t rvs) {a : Addr} (ha : H1 a = none) : H a = none := by
  cases e : H a with
  | none => rfl
  | some o =>
    by_cases z : a = p
    · subst z
      obtain ⟨_, _, _, q⟩ := s.bx
      rw [ha] at q
      cases q
    · rw [s.bt _ _ z e] at ha
      cases ha
theorem TreeS.but (s : TreeS p R Kd w H H1 t rvs) (b : But p H1 H2) (hb : Box H2 p) : TreeS p R Kd w H H2 t rvs :=
  { s with bt := s.bt.trans b, bx := hb, atR := b _ _ (s.np s.hR) s.atR, atK := b _ _ (s.np s.hK) s.atK, reps := s.reps.tk (s.bx.tk b) (rows_hard t) }
theorem TreeS.ex (s : TreeS p R Kd w H H1 t rvs) (e : Ex H1 H2) : TreeS p R Kd w H H2 t rvs := s.but (e.but p) (s.bx.ex e)
theorem TreeS.len (s : TreeS p R Kd w H H1 t rvs) : rvs.length = t.length := by rw [s.reps.len, List.length_map]
theorem TreeS.app (s : TreeS p R Kd w H H1 t rvs) {r : Str × List Int} {v : V} (rv : Rep H1 (rowD r) v) (hs : stands w (kindsT w t) r = true) (ht : TextOk r.1) (hl : r.2.length ≤ 2) :
    TreeS p R Kd w H (upd (upd H1 R (.lst (rvs ++ [v]))) Kd (.lst ((kindsT w t).map V.int ++ [.int (kindAt w r.1)]))) (t ++ [r]) (rvs ++ [v]) := by
  have k1 : Tk H1 (upd H1 R (.lst (rvs ++ [v]))) := tk_put s.atR
  have aK : (upd H1 R (.lst (rvs ++ [v]))) Kd = some (.lst ((kindsT w t).map V.int)) := by rw [upd_ne (Ne.symm s.RK)]; exact s.atK
  have k2 : Tk _ (upd (upd H1 R (.lst (rvs ++ [v]))) Kd (.lst ((kindsT w t).map V.int ++ [.int (kindAt w r.1)]))) := tk_put aK
  have k := k1.trans k2
  refine ⟨s.bx0, (s.bt.at_new s.hR).at_new s.hK, (s.bx.at_upd (s.np s.hR)).at_upd (s.np s.hK), s.hR, s.hK, s.RK, by rw [upd_ne s.RK, upd_same], ?_, ?_, by rw [goTr_app, s.go, List.nil_append, hs]; rfl, fun q hq => ?_⟩
  · rw [upd_same]
    unfold kindsT
    rw [List.map_append, List.map_append]
    rfl
  · rw [List.map_append]
    exact (s.reps.tk k (rows_hard t)).append (by simp only [List.map, Reps]; exact ⟨v, [], rfl, rv.tk k (row_hard r), rfl⟩)
  · rcases List.mem_append.1 hq with hq | hq
    · exact s.row q hq
    · rw [List.mem_singleton.1 hq]
      exact ⟨ht, hl⟩
end
end Bk
set_option Elab.async false
set_option linter.all false
set_option maxRecDepth 100000
set_option maxHeartbeats 4000000
/-! Bk41: values of a tree's rows; the plain tree, step by step. -/
namespace Bk
open PySem PySem.Spec PyProof.Rows L2
/-! ### values of the rows -/
section
variable {β : Type}
def foldV (d : β) (f : Str → List β → β) (t : Tr) : List β := t.foldl (fun acc row => acc ++ [f row.1 (row.2.map fun n => acc.getD n.toNat d)]) []
theorem fold_len {γ : Type} (g : List β → γ → β) : ∀ (l : List γ) (acc : List β), (l.foldl (fun acc row => acc ++ [g acc row]) acc).length = acc.length + l.length
  | [], acc => rfl
  | r :: l, acc => by
    show (l.foldl _ (acc ++ [g acc r])).length = _
    rw [fold_len g l, List.length_append, List.length_cons, List.length_cons, List.length_nil]
    omega
theorem fold_pre {γ : Type} (g : List β → γ → β) : ∀ (l : List γ) (acc : List β), (l.foldl (fun acc row => acc ++ [g acc row]) acc).take acc.length = acc
  | [], acc => List.take_length
  | r :: l, acc => by
    show (l.foldl _ (acc ++ [g acc r])).take acc.length = acc
    have ih := congrArg (List.take acc.length) (fold_pre g l (acc ++ [g acc r]))
    rw [List.take_take, List.length_append, Nat.min_eq_left (Nat.le_add_right _ _)] at ih
    rw [ih, List.take_append_of_le_length (Nat.le_refl _), List.take_length]
variable {d : β} {f : Str → List β → β} {t : Tr}
theorem foldV_snoc {r : Str × List Int} : foldV d f (t ++ [r]) = foldV d f t ++ [f r.1 (r.2.map fun n => (foldV d f t).getD n.toNat d)] := by
  unfold foldV
  rw [List.foldl_append]
  rfl
theorem foldV_len : (foldV d f t).length = t.length := by
  exact (fold_len (fun (acc : List β) (row : Str × List Int) => f row.1 (row.2.map fun n => acc.getD n.toNat d)) t []).trans (by rw [List.length_nil, Nat.zero_add])
theorem foldV_pre (i : Nat) (h : i ≤ t.length) : (foldV d f t).take i = foldV d f (t.take i) := by
  have e : foldV d f t = (t.drop i).foldl (fun acc row => acc ++ [f row.1 (row.2.map fun n => acc.getD n.toNat d)]) (foldV d f (t.take i)) := by
    show t.foldl _ [] = _
    have z := congrArg (List.foldl (fun acc row => acc ++ [f row.1 (row.2.map fun n => acc.getD n.toNat d)]) []) (List.take_append_drop i t).symm
    rw [List.foldl_append] at z
    exact z
  have l : (foldV d f (t.take i)).length = i := by rw [foldV_len, List.length_take]; omega
  have p := fold_pre (fun (acc : List β) (row : Str × List Int) => f row.1 (row.2.map fun n => acc.getD n.toNat d)) (t.drop i) (foldV d f (t.take i))
  rw [l, ← e] at p
  exact p
/-- each row's numbers are of rows ahead of it -/
def TrIdx (t : Tr) : Prop := ∀ (i : Nat) (r : Str × List Int), t[i]? = some r → r.2.length ≤ 2 ∧ ∀ n ∈ r.2, 0 ≤ n ∧ n < (i : Int)
theorem foldV_at (ok : TrIdx t) {i : Nat} {r : Str × List Int} (h : t[i]? = some r) : (foldV d f t)[i]? = some (f r.1 (r.2.map fun n => (foldV d f t).getD n.toNat d)) := by
  have li := (List.getElem?_eq_some_iff.1 h).1
  have p := foldV_pre (d := d) (f := f) (i + 1) (Nat.succ_le_of_lt li)
  rw [take_at h, foldV_snoc] at p
  have l : (foldV d f (t.take i)).length = i := by rw [foldV_len, List.length_take]; omega
  have q : (foldV d f t)[i]? = ((foldV d f t).take (i + 1))[i]? := by rw [List.getElem?_take, if_pos (Nat.lt_succ_self i)]
  rw [q, p, List.getElem?_append_right (by omega), l, Nat.sub_self]
  show some _ = some _
  congr 2
  refine List.map_congr_left fun n hn => ?_
  have := (ok i r h).2 n hn
  rw [List.getD_eq_getElem?_getD, List.getD_eq_getElem?_getD, ← foldV_pre i (Nat.le_of_lt li), List.getElem?_take, if_pos (by omega)]
theorem foldV_app (ok : TrIdx t) (r : Str × List Int) {i : Nat} (h : i < t.length) : (foldV d f (t ++ [r]))[i]? = (foldV d f t)[i]? := by
  rw [foldV_snoc, List.getElem?_append_left (by rw [foldV_len]; exact h)]
end
theorem TrIdx.take {t : Tr} (ok : TrIdx t) (i : Nat) : TrIdx (t.take i) := fun j r h => by
  rw [List.getElem?_take] at h
  split at h
  · exact ok j r h
  · cases h
theorem TrIdx.snoc {t : Tr} (ok : TrIdx t) {r : Str × List Int} (h2 : r.2.length ≤ 2) (h : ∀ n ∈ r.2, 0 ≤ n ∧ n < (t.length : Int)) : TrIdx (t ++ [r]) := fun j q hq => by
  by_cases c : j < t.length
  · rw [List.getElem?_append_left c] at hq
    exact ok j q hq
  · rw [List.getElem?_append_right (by omega)] at hq
    have ej : j = t.length := by
      have := (List.getElem?_eq_some_iff.1 hq).1
      rw [List.length_singleton] at this
      omega
    subst ej
    rw [Nat.sub_self] at hq
    cases hq
    exact ⟨h2, h⟩
/-! ### sizes -/
def szf : Str → List Int → Int := fun _ ps => 1 + ps.sum
def szT (t : Tr) (a : Nat) : Int := (foldV 0 szf t).getD a 0
theorem szT_at {t : Tr} (ok : TrIdx t) {a : Nat} {r : Str × List Int} (h : t[a]? = some r) : szT t a = 1 + (r.2.map fun n => szT t n.toNat).sum := by
  unfold szT
  rw [List.getD_eq_getElem?_getD, foldV_at ok h]
  rfl
theorem sz_pos {t : Tr} (ok : TrIdx t) : ∀ (k a : Nat), a < k → a < t.length → 1 ≤ szT t a
  | 0, a, h, _ => absurd h (Nat.not_lt_zero _)
  | k + 1, a, h, hl => by
    have e := List.getElem?_eq_getElem hl
    rw [szT_at ok e]
    have := sum_nonneg (l := t[a].2.map fun n => szT t n.toNat) fun x hx => by
      obtain ⟨n, hn, rfl⟩ := List.mem_map.1 hx
      have z := (ok a _ e).2 n hn
      have := sz_pos ok k n.toNat (by omega) (by omega)
      omega
    omega
theorem sz_pos' {t : Tr} (ok : TrIdx t) {a : Nat} (h : a < t.length) : 1 ≤ szT t a := sz_pos ok (a + 1) a (Nat.lt_succ_self a) h
theorem mem_le_sumI : ∀ {l : List Int} {x : Int}, (∀ y ∈ l, 0 ≤ y) → x ∈ l → x ≤ l.sum
  | [], x, _, h => nomatch h
  | a :: l, x, hl, h => by
    rw [List.sum_cons]
    have a0 := hl a List.mem_cons_self
    have s0 := sum_nonneg (l := l) fun y hy => hl y (List.mem_cons_of_mem _ hy)
    rcases List.mem_cons.1 h with rfl | h
    · omega
    · have := mem_le_sumI (l := l) (fun y hy => hl y (List.mem_cons_of_mem _ hy)) h
      omega
theorem sz_part {t : Tr} (ok : TrIdx t) {a : Nat} {r : Str × List Int} (h : t[a]? = some r) {n : Int} (hn : n ∈ r.2) : szT t n.toNat < szT t a := by
  rw [szT_at ok h]
  have la := (List.getElem?_eq_some_iff.1 h).1
  have := mem_le_sumI (l := r.2.map fun n => szT t n.toNat) (x := szT t n.toNat) (fun y hy => by
    obtain ⟨m, hm, rfl⟩ := List.mem_map.1 hy
    have z := (ok a _ h).2 m hm
    have := sz_pos' ok (a := m.toNat) (by omega)
    omega) (List.mem_map.2 ⟨n, hn, rfl⟩)
  omega
/-! ### the plain tree -/
structure PlSt where
  left : List (Nat × Bool)
  rows : Tr
  own : List (Nat × Nat)
def ownAt (own : List (Nat × Nat)) (n : Nat) : Option Nat := (own.find? fun p => decide (p.1 = n)).map (·.2)
def rowAt (t : Tr) (a : Nat) : Str × List Int := t.getD a ("", [])
def markOf (t : Tr) (own : List (Nat × Nat)) (a : Nat) : Mark := ((rowAt t a).1, (rowAt t a).2.map fun n => (((ownAt own n.toNat).getD 0 : Nat) : Int))
def markIx (rows : Tr) (m : Mark) : Option Nat := rows.findIdx? fun r => decide (r = m)
def stepP (t : Tr) : PlSt → PlSt
  | ⟨[], rows, own⟩ => ⟨[], rows, own⟩
  | ⟨(a, b) :: left, rows, own⟩ =>
    if (ownAt own a).isSome = true then ⟨left, rows, own⟩
    else if b = true then
      match markIx rows (markOf t own a) with
      | some k => ⟨left, rows, own ++ [(a, k)]⟩
      | none => ⟨left, rows ++ [markOf t own a], own ++ [(a, rows.length)]⟩
    else ⟨(rowAt t a).2.map (fun n => (n.toNat, false)) ++ (a, true) :: left, rows, own⟩
def startP (t : Tr) : PlSt := ⟨[(t.length - 1, false)], [], []⟩
def runP (t : Tr) : Nat → PlSt
  | 0 => startP t
  | k + 1 => stepP t (runP t k)
theorem ownAt_mem {own : List (Nat × Nat)} {n k : Nat} (h : ownAt own n = some k) : (n, k) ∈ own := by
  unfold ownAt at h
  cases c : own.find? fun p => decide (p.1 = n) with
  | none => rw [c] at h; cases h
  | some p =>
    rw [c] at h
    cases h
    have := List.find?_some c
    have e : p.1 = n := of_decide_eq_true this
    rw [← e]
    exact List.mem_of_find?_eq_some c
theorem ownAt_app {own : List (Nat × Nat)} {a k n : Nat} : ownAt (own ++ [(a, k)]) n = (ownAt own n).or (if a = n then some k else none) := by
  unfold ownAt
  rw [List.find?_append]
  cases own.find? fun p => decide (p.1 = n) with
  | some p => rfl
  | none =>
    by_cases c : a = n
    · simp [List.find?_cons, c]
    · simp [List.find?_cons, c]
theorem ownAt_none {own : List (Nat × Nat)} {n : Nat} (h : ownAt own n = none) : n ∉ own.map (·.1) := fun hm => by
  obtain ⟨p, hp, rfl⟩ := List.mem_map.1 hm
  unfold ownAt at h
  rw [Option.map_eq_none_iff, List.find?_eq_none] at h
  exact h p hp (decide_eq_true rfl)
theorem rowAt_eq {t : Tr} {a : Nat} {r : Str × List Int} (h : t[a]? = some r) : rowAt t a = r := by
  unfold rowAt
  rw [List.getD_eq_getElem?_getD, h]
  rfl
theorem markIx_some {rows : Tr} {m : Mark} {k : Nat} (h : markIx rows m = some k) : rows[k]? = some m := by
  unfold markIx at h
  obtain ⟨h1, h2, _⟩ := List.findIdx?_eq_some_iff_getElem.1 h
  rw [List.getElem?_eq_getElem h1, of_decide_eq_true h2]
theorem markIx_none {rows : Tr} {m : Mark} (h : markIx rows m = none) : m ∉ rows := fun hm => by
  unfold markIx at h
  rw [List.findIdx?_eq_none_iff] at h
  have := h m hm
  simp at this
structure PInv (t : Tr) (s : PlSt) : Prop where
  stk : ∀ p ∈ s.left, p.1 < t.length
  ord : s.left.Pairwise fun p q => q.2 = true → p.1 < q.1
  part : ∀ (above below : List (Nat × Bool)) (a : Nat), s.left = above ++ (a, true) :: below → ∀ n ∈ (rowAt t a).2, (ownAt s.own n.toNat).isSome = true ∨ ∃ b, (n.toNat, b) ∈ above
  ownl : ∀ p ∈ s.own, p.1 < t.length ∧ p.2 < s.rows.length
  ownd : (s.own.map (·.1)).Nodup
  few : s.rows.length ≤ s.own.length
  nd : s.rows.Nodup
  idx : TrIdx s.rows
  name : ∀ p ∈ s.own, (rowAt s.rows p.2).1 = (rowAt t p.1).1
  same : ∀ p ∈ s.own, ∀ (β : Type) (d : β) (f : Str → List β → β), (foldV d f s.rows)[p.2]? = (foldV d f t)[p.1]?
  rowl : ∀ (k : Nat) (r : Str × List Int), s.rows[k]? = some r → ∃ a, a < t.length ∧ r.1 = (rowAt t a).1 ∧ r.2.length = (rowAt t a).2.length ∧ ∀ (j : Nat) (n m : Int), r.2[j]? = some n → (rowAt t a).2[j]? = some m → 0 ≤ m ∧ m.toNat < a ∧ 0 ≤ n ∧ n.toNat < k ∧ (rowAt s.rows n.toNat).1 = (rowAt t m.toNat).1
  base : (∃ pre b, s.left = pre ++ [(t.length - 1, b)] ∧ (∀ p ∈ pre, szT t p.1 < szT t (t.length - 1)) ∧ (∀ k, k < s.rows.length → szT s.rows k < szT t (t.length - 1)) ∧ ownAt s.own (t.length - 1) = none) ∨ (s.left = [] ∧ ∃ k, ownAt s.own (t.length - 1) = some k ∧ k + 1 = s.rows.length)
def cntP (t : Tr) (left : List (Nat × Bool)) (own : List (Nat × Nat)) : Nat := (List.range t.length).countP fun a => (ownAt own a).isNone && !decide ((a, true) ∈ left)
def measP (t : Tr) (s : PlSt) : Nat := s.left.length + 4 * cntP t s.left s.own
theorem PInv.start {t : Tr} (h : 0 < t.length) : PInv t (startP t) := by
  refine ⟨fun p hp => ?_, List.pairwise_singleton _ _, fun above below a e => ?_, fun p z => (nomatch z), List.nodup_nil, Nat.le_refl _, List.nodup_nil, fun i r z => by simp [startP] at z, fun p z => (nomatch z), fun p z => (nomatch z), fun k r z => by simp [startP] at z, .inl ⟨[], false, rfl, fun p z => (nomatch z), fun k z => absurd z (Nat.not_lt_zero _), rfl⟩⟩
  · rw [List.mem_singleton.1 hp]
    show t.length - 1 < t.length
    omega
  · exfalso
    have : (a, true) ∈ (startP t).left := by rw [e]; exact List.mem_append_right _ List.mem_cons_self
    have z := List.mem_singleton.1 this
    cases z
theorem countP_lt {α : Type} {p q : α → Bool} : ∀ {l : List α} {a : α}, (∀ x, q x = true → p x = true) → a ∈ l → p a = true → q a = false → l.countP q < l.countP p
  | [], a, _, h, _, _ => nomatch h
  | x :: l, a, hx, h, h1, h2 => by
    rw [List.countP_cons, List.countP_cons]
    have le : l.countP q ≤ l.countP p := List.countP_mono_left fun y _ => hx y
    rcases List.mem_cons.1 h with rfl | h
    · rw [if_pos h1, if_neg (by rw [h2]; exact Bool.false_ne_true)]
      omega
    · have := countP_lt (l := l) hx h h1 h2
      by_cases c : q x = true
      · rw [if_pos c, if_pos (hx x c)]
        omega
      · rw [if_neg c]
        omega
theorem getD_snoc {α : Type} {l : List α} {x d : α} {k : Nat} (h : k < l.length) : (l ++ [x]).getD k d = l.getD k d := by
  rw [List.getD_eq_getElem?_getD, List.getD_eq_getElem?_getD, List.getElem?_append_left h]
theorem getD_last {α : Type} {l : List α} {x d : α} : (l ++ [x]).getD l.length d = x := by
  rw [List.getD_eq_getElem?_getD, List.getElem?_append_right (Nat.le_refl _), Nat.sub_self]
  rfl
theorem cons_app {α : Type} {x y : α} {l pre : List α} (h : x :: l = pre ++ [y]) : (pre = [] ∧ x = y ∧ l = []) ∨ ∃ pre', pre = x :: pre' ∧ l = pre' ++ [y] := by
  cases pre with
  | nil =>
    rw [List.nil_append] at h
    injection h with h1 h2
    exact .inl ⟨rfl, h1, h2⟩
  | cons z pre =>
    rw [List.cons_append] at h
    injection h with h1 h2
    exact .inr ⟨pre, by rw [h1], h2⟩
theorem meas_le {t : Tr} {left left' : List (Nat × Bool)} {rows rows' : Tr} {own own' : List (Nat × Nat)} {c : Nat × Bool} (hl : left = c :: left') (h : ∀ x, ownAt own' x = none → (x, true) ∉ left' → ownAt own x = none ∧ (x, true) ∉ left) : measP t ⟨left', rows', own'⟩ < measP t ⟨left, rows, own⟩ := by
  have : cntP t left' own' ≤ cntP t left own := List.countP_mono_left fun x _ hx => by
    simp only [Bool.and_eq_true, Option.isNone_iff_eq_none, Bool.not_eq_true', decide_eq_false_iff_not] at hx ⊢
    exact h x hx.1 hx.2
  show left'.length + 4 * cntP t left' own' < left.length + 4 * cntP t left own
  have e : left.length = left'.length + 1 := by rw [hl, List.length_cons]
  omega
theorem PInv.step {t : Tr} (ok : TrIdx t) {s : PlSt} (h : PInv t s) (hl : s.left ≠ []) : PInv t (stepP t s) ∧ measP t (stepP t s) < measP t s := by
  obtain ⟨left0, rows, own⟩ := s
  cases left0 with
  | nil => exact absurd rfl hl
  | cons p left =>
  obtain ⟨a, b⟩ := p
  have la : a < t.length := h.stk (a, b) List.mem_cons_self
  have er0 := List.getElem?_eq_getElem la
  obtain ⟨r, er⟩ : ∃ r, t[a]? = some r := ⟨_, er0⟩
  clear er0
  have ra := rowAt_eq er
  have rix := ok a r er
  have hbase := h.base.resolve_right fun z => nomatch z.1
  obtain ⟨pre, b', ebase, hpre, hsz, hroot⟩ := hbase
  replace ebase : (a, b) :: left = pre ++ [(t.length - 1, b')] := ebase
  replace hroot : ownAt own (t.length - 1) = none := hroot
  have ordt := List.pairwise_cons.1 h.ord
  by_cases c1 : (ownAt own a).isSome = true
  · -- it is there
    have es : stepP t ⟨(a, b) :: left, rows, own⟩ = ⟨left, rows, own⟩ := by
      show (if (ownAt own a).isSome = true then _ else _) = _
      rw [if_pos c1]
    rw [es]
    refine ⟨⟨fun p hp => h.stk p (List.mem_cons_of_mem _ hp), ordt.2, fun above below x e n hn => ?_, h.ownl, h.ownd, h.few, h.nd, h.idx, h.name, h.same, h.rowl, ?_⟩, meas_le rfl fun x h1 h2 => ⟨h1, fun z => ?_⟩⟩
    · replace e : left = above ++ (x, true) :: below := e
      rcases h.part ((a, b) :: above) below x (by show (a, b) :: left = _; rw [e]; rfl) n hn with z | ⟨b2, z⟩
      · exact .inl z
      · rcases List.mem_cons.1 z with z | z
        · have : n.toNat = a := congrArg Prod.fst z
          exact .inl (by rw [this]; exact c1)
        · exact .inr ⟨b2, z⟩
    · rcases cons_app ebase with ⟨_, e, _⟩ | ⟨pre', rfl, e⟩
      · have : a = t.length - 1 := congrArg Prod.fst e
        rw [this, hroot] at c1
        cases c1
      · exact .inl ⟨pre', b', e, fun p hp => hpre p (List.mem_cons_of_mem _ hp), hsz, hroot⟩
    · rcases List.mem_cons.1 z with z | z
      · have : x = a := congrArg Prod.fst z
        rw [this] at h1
        rw [h1] at c1
        cases c1
      · exact h2 z
  have own0 : ownAt own a = none := by
    cases c : ownAt own a with
    | none => rfl
    | some k => rw [c] at c1; exact absurd rfl c1
  cases b with
  | false =>
    -- its parts first
    have es : stepP t ⟨(a, false) :: left, rows, own⟩ = ⟨r.2.map (fun n => (n.toNat, false)) ++ (a, true) :: left, rows, own⟩ := by
      show (if (ownAt own a).isSome = true then _ else if false = true then _ else _) = _
      rw [if_neg c1, if_neg Bool.false_ne_true, ra]
    rw [es]
    have pin : ∀ p ∈ r.2.map (fun n : Int => (n.toNat, false)), p.2 = false ∧ p.1 < a ∧ szT t p.1 < szT t a := fun p hp => by
      obtain ⟨n, hn, rfl⟩ := List.mem_map.1 hp
      have := rix.2 n hn
      exact ⟨rfl, show n.toNat < a by omega, sz_part ok er hn⟩
    refine ⟨⟨fun p hp => ?_, ?_, fun above below x e n hn => ?_, h.ownl, h.ownd, h.few, h.nd, h.idx, h.name, h.same, h.rowl, ?_⟩, ?_⟩
    · rcases List.mem_append.1 hp with hp | hp
      · have := (pin p hp).2.1
        omega
      · rcases List.mem_cons.1 hp with rfl | hp
        · exact la
        · exact h.stk p (List.mem_cons_of_mem _ hp)
    · refine List.pairwise_append.2 ⟨?_, List.pairwise_cons.2 ⟨fun q hq hq2 => ordt.1 q hq hq2, ordt.2⟩, fun p hp q hq hq2 => ?_⟩
      · refine List.Pairwise.imp_of_mem (R := fun _ _ => True) (fun {p q} _ hq _ hq2 => ?_) (List.pairwise_of_forall_mem_list fun _ _ _ _ => trivial)
        rw [(pin q hq).1] at hq2
        cases hq2
      · have := (pin p hp).2.1
        rcases List.mem_cons.1 hq with rfl | hq
        · exact this
        · have := ordt.1 q hq hq2
          replace this : a < q.1 := this
          omega
    · replace e : r.2.map (fun n => (n.toNat, false)) ++ (a, true) :: left = above ++ (x, true) :: below := e
      have first : ∀ c' : List (Nat × Bool), above = r.2.map (fun n => (n.toNat, false)) ++ c' → (a, true) :: left = c' ++ (x, true) :: below → (ownAt own n.toNat).isSome = true ∨ ∃ b, (n.toNat, b) ∈ above := by
        intro c' ea e2
        cases c' with
        | nil =>
          rw [List.nil_append] at e2
          injection e2 with e2 _
          have : a = x := congrArg Prod.fst e2
          subst this
          rw [ra] at hn
          exact .inr ⟨false, by rw [ea, List.append_nil]; exact List.mem_map.2 ⟨n, hn, rfl⟩⟩
        | cons q c' =>
          rw [List.cons_append] at e2
          injection e2 with e2 e3
          rcases h.part ((a, false) :: c') below x (by show (a, false) :: left = _; rw [e3]; rfl) n hn with z | ⟨b2, z⟩
          · exact .inl z
          · rcases List.mem_cons.1 z with z | z
            · have : n.toNat = a := congrArg Prod.fst z
              exact .inr ⟨true, by rw [ea, this, ← e2]; exact List.mem_append_right _ List.mem_cons_self⟩
            · exact .inr ⟨b2, by rw [ea]; exact List.mem_append_right _ (List.mem_cons_of_mem _ z)⟩
      rcases List.append_eq_append_iff.1 e with ⟨c', e1, e2⟩ | ⟨c', e1, e2⟩
      · exact first c' e1 e2
      · cases c' with
        | nil =>
          rw [List.append_nil] at e1
          rw [List.nil_append] at e2
          exact first [] (by rw [e1, List.append_nil]) (by rw [List.nil_append]; exact e2.symm)
        | cons q c' =>
          rw [List.cons_append] at e2
          injection e2 with e2 _
          have := (pin q (by rw [e1]; exact List.mem_append_right _ List.mem_cons_self)).1
          rw [← e2] at this
          cases this
    · rcases cons_app ebase with ⟨_, e, e2⟩ | ⟨pre', rfl, e⟩
      · have ea : a = t.length - 1 := congrArg Prod.fst e
        refine .inl ⟨r.2.map (fun n => (n.toNat, false)), true, ?_, fun p hp => ?_, hsz, hroot⟩
        · show _ ++ (a, true) :: left = _
          rw [e2, ea]
        · rw [← ea]
          exact (pin p hp).2.2
      · have sa := hpre (a, false) List.mem_cons_self
        refine .inl ⟨r.2.map (fun n => (n.toNat, false)) ++ (a, true) :: pre', b', ?_, fun p hp => ?_, hsz, hroot⟩
        · show _ ++ (a, true) :: left = _
          rw [e, List.append_assoc]
          rfl
        · rcases List.mem_append.1 hp with hp | hp
          · exact Int.lt_trans (pin p hp).2.2 sa
          · rcases List.mem_cons.1 hp with rfl | hp
            · exact sa
            · exact hpre p (List.mem_cons_of_mem _ hp)
    · have lp : (r.2.map (fun n : Int => (n.toNat, false))).length ≤ 2 := by rw [List.length_map]; exact rix.1
      have : cntP t (r.2.map (fun n : Int => (n.toNat, false)) ++ (a, true) :: left) own < cntP t ((a, false) :: left) own := countP_lt (l := List.range t.length) (a := a) (p := fun x => (ownAt own x).isNone && !decide ((x, true) ∈ (a, false) :: left)) (q := fun x => (ownAt own x).isNone && !decide ((x, true) ∈ r.2.map (fun n : Int => (n.toNat, false)) ++ (a, true) :: left)) (fun x hx => by
        simp only [Bool.and_eq_true, Option.isNone_iff_eq_none, Bool.not_eq_true', decide_eq_false_iff_not] at hx ⊢
        refine ⟨hx.1, fun z => hx.2 (List.mem_append_right _ (List.mem_cons_of_mem _ ?_))⟩
        rcases List.mem_cons.1 z with z | z
        · cases z
        · exact z) (List.mem_range.2 la) (by
        simp only [Bool.and_eq_true, Option.isNone_iff_eq_none, Bool.not_eq_true', decide_eq_false_iff_not]
        refine ⟨own0, fun z => ?_⟩
        rcases List.mem_cons.1 z with z | z
        · cases z
        · exact Nat.lt_irrefl _ (ordt.1 (a, true) z rfl)) (by
        have : decide ((a, true) ∈ r.2.map (fun n : Int => (n.toNat, false)) ++ (a, true) :: left) = true := decide_eq_true (List.mem_append_right _ List.mem_cons_self)
        simp only [this, Bool.not_true, Bool.and_false])
      show (r.2.map (fun n : Int => (n.toNat, false)) ++ (a, true) :: left).length + 4 * cntP t (r.2.map (fun n : Int => (n.toNat, false)) ++ (a, true) :: left) own < ((a, false) :: left).length + 4 * cntP t ((a, false) :: left) own
      rw [List.length_append, List.length_cons, List.length_cons]
      omega
  | true =>
    have hparts : ∀ n ∈ r.2, ∃ k, ownAt own n.toNat = some k ∧ (n.toNat, k) ∈ own ∧ k < rows.length := fun n hn => by
      rcases h.part [] left a rfl n (by rw [ra]; exact hn) with z | ⟨_, z⟩
      · obtain ⟨k, hk⟩ := Option.isSome_iff_exists.1 z
        exact ⟨k, hk, ownAt_mem hk, (h.ownl _ (ownAt_mem hk)).2⟩
      · cases z
    obtain ⟨m, em⟩ : ∃ m, m = markOf t own a := ⟨_, rfl⟩
    have em2 : m = (r.1, r.2.map fun n => (((ownAt own n.toNat).getD 0 : Nat) : Int)) := by rw [em]; unfold markOf; rw [ra]
    have hval : ∀ (β : Type) (d : β) (f : Str → List β → β), f m.1 (m.2.map fun n => (foldV d f rows).getD n.toNat d) = f r.1 (r.2.map fun n => (foldV d f t).getD n.toNat d) := fun β d f => by
      rw [em2]
      show f r.1 ((r.2.map fun n => (((ownAt own n.toNat).getD 0 : Nat) : Int)).map fun n => (foldV d f rows).getD n.toNat d) = _
      rw [List.map_map]
      congr 1
      refine List.map_congr_left fun n hn => ?_
      obtain ⟨k, hk, hm, _⟩ := hparts n hn
      show (foldV d f rows).getD (((ownAt own n.toNat).getD 0 : Nat) : Int).toNat d = _
      rw [hk, Option.getD_some, Int.toNat_natCast, List.getD_eq_getElem?_getD, List.getD_eq_getElem?_getD, h.same _ hm β d f]
    have mlen : m.2.length ≤ 2 := by rw [em2]; show (r.2.map _).length ≤ 2; rw [List.length_map]; exact rix.1
    have mrow : ∀ (j : Nat) (n q : Int), m.2[j]? = some n → r.2[j]? = some q → 0 ≤ q ∧ q.toNat < a ∧ 0 ≤ n ∧ n.toNat < rows.length ∧ (rowAt rows n.toNat).1 = (rowAt t q.toNat).1 := fun j n q hn hq => by
      rw [em2] at hn
      rw [List.getElem?_map, hq] at hn
      cases hn
      obtain ⟨k, hk, hm, hkl⟩ := hparts q (List.mem_of_getElem? hq)
      have := rix.2 q (List.mem_of_getElem? hq)
      show 0 ≤ q ∧ q.toNat < a ∧ (0 : Int) ≤ (((ownAt own q.toNat).getD 0 : Nat) : Int) ∧ (((ownAt own q.toNat).getD 0 : Nat) : Int).toNat < rows.length ∧ (rowAt rows (((ownAt own q.toNat).getD 0 : Nat) : Int).toNat).1 = (rowAt t q.toNat).1
      rw [hk, Option.getD_some, Int.toNat_natCast]
      exact ⟨this.1, by omega, Int.natCast_nonneg _, hkl, h.name _ hm⟩
    have mnum : ∀ n ∈ m.2, 0 ≤ n ∧ n < (rows.length : Int) := fun n hn => by
      obtain ⟨j, hj⟩ := List.mem_iff_getElem?.1 hn
      have lj := (List.getElem?_eq_some_iff.1 hj).1
      have l2 : j < r.2.length := by rw [em2] at lj; rw [List.length_map] at lj; exact lj
      have := mrow j n _ hj (List.getElem?_eq_getElem l2)
      omega
    have vt : ∀ (β : Type) (d : β) (f : Str → List β → β), (foldV d f t)[a]? = some (f m.1 (m.2.map fun n => (foldV d f rows).getD n.toNat d)) := fun β d f => by rw [hval β d f, foldV_at ok er]
    have newown : ∀ {k : Nat} (x : Nat), ownAt (own ++ [(a, k)]) x = none → ownAt own x = none ∧ x ≠ a := fun {k} x hx => by
      rw [ownAt_app] at hx
      cases c : ownAt own x with
      | some y => rw [c] at hx; cases hx
      | none =>
        rw [c] at hx
        refine ⟨rfl, fun z => ?_⟩
        rw [if_pos z.symm] at hx
        cases hx
    have stillown : ∀ {k : Nat} (x : Nat), (ownAt own x).isSome = true ∨ x = a → (ownAt (own ++ [(a, k)]) x).isSome = true := fun {k} x hx => by
      rw [ownAt_app]
      rcases hx with hx | rfl
      · obtain ⟨y, hy⟩ := Option.isSome_iff_exists.1 hx
        rw [hy]
        rfl
      · rw [own0, if_pos rfl]
        rfl
    have part' : ∀ {k : Nat} (above below : List (Nat × Bool)) (x : Nat), left = above ++ (x, true) :: below → ∀ n ∈ (rowAt t x).2, (ownAt (own ++ [(a, k)]) n.toNat).isSome = true ∨ ∃ b, (n.toNat, b) ∈ above := fun {k} above below x e n hn => by
      rcases h.part ((a, true) :: above) below x (by show (a, true) :: left = _; rw [e]; rfl) n hn with z | ⟨b2, z⟩
      · exact .inl (stillown _ (.inl z))
      · rcases List.mem_cons.1 z with z | z
        · exact .inl (stillown _ (.inr (congrArg Prod.fst z)))
        · exact .inr ⟨b2, z⟩
    have ownd' : ∀ {k : Nat}, ((own ++ [(a, k)]).map (·.1)).Nodup := fun {k} => by
      rw [List.map_append]
      refine List.nodup_append.2 ⟨h.ownd, List.nodup_cons.2 ⟨fun z => (nomatch z), List.nodup_nil⟩, fun x hx y hy => ?_⟩
      rw [List.mem_singleton.1 hy]
      intro z
      rw [z] at hx
      exact ownAt_none own0 hx
    have less : ∀ {rows' : Tr} {k : Nat}, measP t ⟨left, rows', own ++ [(a, k)]⟩ < measP t ⟨(a, true) :: left, rows, own⟩ := fun {rows' k} => meas_le rfl fun x h1 h2 => by
      obtain ⟨h3, h4⟩ := newown x h1
      refine ⟨h3, fun z => ?_⟩
      rcases List.mem_cons.1 z with z | z
      · exact h4 (congrArg Prod.fst z)
      · exact h2 z
    cases cm : markIx rows m with
    | some k =>
      have es : stepP t ⟨(a, true) :: left, rows, own⟩ = ⟨left, rows, own ++ [(a, k)]⟩ := by
        show (if (ownAt own a).isSome = true then _ else if true = true then _ else _) = _
        rw [if_neg c1, if_pos rfl, ← em, cm]
      rw [es]
      have hk := markIx_some cm
      have lk := (List.getElem?_eq_some_iff.1 hk).1
      refine ⟨⟨fun p hp => h.stk p (List.mem_cons_of_mem _ hp), ordt.2, part', fun p hp => ?_, ownd', by show rows.length ≤ (own ++ [(a, k)]).length; have := h.few; rw [List.length_append]; replace this : rows.length ≤ own.length := this; omega, h.nd, h.idx, fun p hp => ?_, fun p hp β d f => ?_, h.rowl, ?_⟩, less⟩
      · rcases List.mem_append.1 hp with hp | hp
        · exact h.ownl p hp
        · rw [List.mem_singleton.1 hp]
          exact ⟨la, lk⟩
      · rcases List.mem_append.1 hp with hp | hp
        · exact h.name p hp
        · rw [List.mem_singleton.1 hp]
          show (rowAt rows k).1 = (rowAt t a).1
          rw [rowAt_eq hk, ra, em2]
      · rcases List.mem_append.1 hp with hp | hp
        · exact h.same p hp β d f
        · rw [List.mem_singleton.1 hp]
          show (foldV d f rows)[k]? = (foldV d f t)[a]?
          rw [vt, foldV_at h.idx hk]
      · have sk : szT rows k = szT t a := by
          unfold szT
          rw [List.getD_eq_getElem?_getD, List.getD_eq_getElem?_getD, vt, foldV_at h.idx hk]
        rcases cons_app ebase with ⟨_, e, e2⟩ | ⟨pre', rfl, e⟩
        · exfalso
          have ea : a = t.length - 1 := congrArg Prod.fst e
          have := hsz k lk
          replace this : szT rows k < szT t (t.length - 1) := this
          rw [sk, ea] at this
          exact Int.lt_irrefl _ this
        · have sa := hpre (a, true) List.mem_cons_self
          refine .inl ⟨pre', b', e, fun p hp => hpre p (List.mem_cons_of_mem _ hp), hsz, ?_⟩
          show ownAt (own ++ [(a, k)]) (t.length - 1) = none
          rw [ownAt_app, hroot, if_neg fun z => ?_]
          · rfl
          · rw [z] at sa
            exact Int.lt_irrefl _ sa
    | none =>
      have es : stepP t ⟨(a, true) :: left, rows, own⟩ = ⟨left, rows ++ [m], own ++ [(a, rows.length)]⟩ := by
        show (if (ownAt own a).isSome = true then _ else if true = true then _ else _) = _
        rw [if_neg c1, if_pos rfl, ← em, cm]
      rw [es]
      have hm := markIx_none cm
      have rold : ∀ k, k < rows.length → rowAt (rows ++ [m]) k = rowAt rows k := fun k hk => getD_snoc hk
      have rnew : rowAt (rows ++ [m]) rows.length = m := getD_last
      have vnew : ∀ (β : Type) (d : β) (f : Str → List β → β), (foldV d f (rows ++ [m]))[rows.length]? = (foldV d f t)[a]? := fun β d f => by
        rw [vt, foldV_snoc, List.getElem?_append_right (by rw [foldV_len]; exact Nat.le_refl _), foldV_len, Nat.sub_self]
        rfl
      refine ⟨⟨fun p hp => h.stk p (List.mem_cons_of_mem _ hp), ordt.2, part', fun p hp => ?_, ownd', by show (rows ++ [m]).length ≤ (own ++ [(a, rows.length)]).length; have := h.few; replace this : rows.length ≤ own.length := this; rw [List.length_append, List.length_append]; simp; omega, ?_, h.idx.snoc mlen mnum, fun p hp => ?_, fun p hp β d f => ?_, fun k q hq => ?_, ?_⟩, less⟩
      · show p.1 < t.length ∧ p.2 < (rows ++ [m]).length
        rw [List.length_append, List.length_singleton]
        rcases List.mem_append.1 hp with hp | hp
        · have := h.ownl p hp
          replace this : p.1 < t.length ∧ p.2 < rows.length := this
          exact ⟨this.1, by omega⟩
        · rw [List.mem_singleton.1 hp]
          exact ⟨la, Nat.lt_succ_self _⟩
      · refine List.nodup_append.2 ⟨h.nd, List.nodup_cons.2 ⟨fun z => (nomatch z), List.nodup_nil⟩, fun x hx y hy => ?_⟩
        rw [List.mem_singleton.1 hy]
        intro z
        rw [z] at hx
        exact hm hx
      · show (rowAt (rows ++ [m]) p.2).1 = _
        rcases List.mem_append.1 hp with hp | hp
        · rw [rold _ (h.ownl p hp).2]
          exact h.name p hp
        · rw [List.mem_singleton.1 hp]
          show (rowAt (rows ++ [m]) rows.length).1 = (rowAt t a).1
          rw [rnew, ra, em2]
      · show (foldV d f (rows ++ [m]))[p.2]? = _
        rcases List.mem_append.1 hp with hp | hp
        · rw [foldV_app h.idx m (h.ownl p hp).2]
          exact h.same p hp β d f
        · rw [List.mem_singleton.1 hp]
          exact vnew β d f
      · replace hq : (rows ++ [m])[k]? = some q := hq
        show ∃ a, a < t.length ∧ q.1 = (rowAt t a).1 ∧ q.2.length = (rowAt t a).2.length ∧ ∀ (j : Nat) (n m' : Int), q.2[j]? = some n → (rowAt t a).2[j]? = some m' → 0 ≤ m' ∧ m'.toNat < a ∧ 0 ≤ n ∧ n.toNat < k ∧ (rowAt (rows ++ [m]) n.toNat).1 = (rowAt t m'.toNat).1
        by_cases c : k < rows.length
        · rw [List.getElem?_append_left c] at hq
          obtain ⟨x, x1, x2, x3, x4⟩ := h.rowl k q hq
          refine ⟨x, x1, x2, x3, fun j n m' hn hm' => ?_⟩
          obtain ⟨y1, y2, y3, y4, y5⟩ := x4 j n m' hn hm'
          exact ⟨y1, y2, y3, y4, by rw [rold _ (by omega)]; exact y5⟩
        · rw [List.getElem?_append_right (by omega)] at hq
          have ek : k = rows.length := by
            have := (List.getElem?_eq_some_iff.1 hq).1
            rw [List.length_singleton] at this
            omega
          subst ek
          rw [Nat.sub_self] at hq
          cases hq
          refine ⟨a, la, by rw [ra, em2], by rw [ra, em2, List.length_map], fun j n m' hn hm' => ?_⟩
          rw [ra] at hm'
          obtain ⟨y1, y2, y3, y4, y5⟩ := mrow j n m' hn hm'
          exact ⟨y1, y2, y3, y4, by rw [rold _ y4]; exact y5⟩
      · rcases cons_app ebase with ⟨_, e, e2⟩ | ⟨pre', rfl, e⟩
        · have ea : a = t.length - 1 := congrArg Prod.fst e
          refine .inr ⟨e2, rows.length, ?_, ?_⟩
          · show ownAt (own ++ [(a, rows.length)]) (t.length - 1) = _
            rw [ownAt_app, hroot, if_pos ea]
            rfl
          · show _ = (rows ++ [m]).length
            rw [List.length_append, List.length_singleton]
        · have sa := hpre (a, true) List.mem_cons_self
          refine .inl ⟨pre', b', e, fun p hp => hpre p (List.mem_cons_of_mem _ hp), fun k hk => ?_, ?_⟩
          · replace hk : k < (rows ++ [m]).length := hk
            show szT (rows ++ [m]) k < _
            rw [List.length_append, List.length_singleton] at hk
            by_cases c : k < rows.length
            · have : szT (rows ++ [m]) k = szT rows k := by
                unfold szT
                rw [List.getD_eq_getElem?_getD, List.getD_eq_getElem?_getD, foldV_app h.idx m c]
              rw [this]
              exact hsz k c
            · have ek : k = rows.length := by omega
              subst ek
              have : szT (rows ++ [m]) rows.length = szT t a := by
                unfold szT
                rw [List.getD_eq_getElem?_getD, List.getD_eq_getElem?_getD, vnew]
              rw [this]
              exact sa
          · show ownAt (own ++ [(a, rows.length)]) (t.length - 1) = none
            rw [ownAt_app, hroot, if_neg fun z => ?_]
            · rfl
            · rw [z] at sa
              exact Int.lt_irrefl _ sa
end Bk
set_option Elab.async false
set_option linter.all false
set_option maxRecDepth 100000
set_option maxHeartbeats 4000000
/-! Bk42: the plain tree's loop on the heap; reversed; dicts by whole numbers. -/
namespace Bk
open PySem PySem.Spec PyProof.Rows L2
/-! ### dicts by whole numbers -/
/-! ### reversed(tuple) -/
/-! ### the plain tree's loop -/
/-- (a row's number, is it done) on a pile, its top last -/
def LfAt (H : Hp) : List (Nat × Bool) → List V → Prop
  | [], vs => vs = []
  | p :: l, vs => ∃ xs q, vs = xs ++ [.ref q] ∧ H q = some (.tup [.int (p.1 : Nat), .bl p.2]) ∧ LfAt H l xs
theorem LfAt.tk {H H' : Hp} (t : Tk H H') : ∀ {l : List (Nat × Bool)} {vs : List V}, LfAt H l vs → LfAt H' l vs
  | [], _, h => h
  | p :: l, _, ⟨xs, q, e, h1, h2⟩ => ⟨xs, q, e, t _ _ h1, LfAt.tk t h2⟩
theorem LfAt.len {H : Hp} : ∀ {l : List (Nat × Bool)} {vs : List V}, LfAt H l vs → vs.length = l.length
  | [], _, h => by rw [show _ = _ from h]; rfl
  | p :: l, _, ⟨xs, q, e, h1, h2⟩ => by rw [e, List.length_append, LfAt.len h2]; rfl
theorem LfAt.ext {H : Hp} {l : List (Nat × Bool)} {xs : List V} (h : LfAt H l xs) : ∀ {ps : List (Nat × Bool)} {acc : List V}, acc.length = ps.length → (∀ (j : Nat) (v : V), acc[j]? = some v → ∃ q p, v = .ref q ∧ ps[ps.length - 1 - j]? = some p ∧ H q = some (.tup [.int (p.1 : Nat), .bl p.2])) → LfAt H (ps ++ l) (xs ++ acc)
  | [], acc, hl, _ => by
    rw [List.eq_nil_of_length_eq_zero hl, List.append_nil]
    exact h
  | p :: ps, acc, hl, ha => by
    rw [List.length_cons] at hl
    have ne : acc ≠ [] := fun z => by rw [z] at hl; cases hl
    have e := List.dropLast_concat_getLast ne
    have hlast : acc[ps.length]? = some (acc.getLast ne) := by
      rw [List.getLast_eq_getElem, List.getElem?_eq_getElem (by omega)]
      congr 2
      omega
    obtain ⟨q, p', hq, hp, hH⟩ := ha _ _ hlast
    rw [List.length_cons, show ps.length + 1 - 1 - ps.length = 0 by omega] at hp
    cases hp
    refine ⟨xs ++ acc.dropLast, q, ?_, hH, LfAt.ext h (by rw [List.length_dropLast]; omega) fun j v hj => ?_⟩
    · rw [List.append_assoc, ← hq, e]
    · have lj : j < acc.dropLast.length := (List.getElem?_eq_some_iff.1 hj).1
      have ld : acc.dropLast.length = ps.length := by rw [List.length_dropLast]; omega
      have hj2 : acc[j]? = some v := by rw [← e, List.getElem?_append_left lj]; exact hj
      obtain ⟨q2, p2, h1, h2, h3⟩ := ha j v hj2
      refine ⟨q2, p2, h1, ?_, h3⟩
      rw [List.length_cons, show ps.length + 1 - 1 - j = (ps.length - 1 - j) + 1 by omega] at h2
      exact h2
section
variable {t : Tr} {a : Nat} {left : List (Nat × Bool)} {rows : Tr} {own : List (Nat × Nat)}
theorem stepP_there {b : Bool} {k : Nat} (h : ownAt own a = some k) : stepP t ⟨(a, b) :: left, rows, own⟩ = ⟨left, rows, own⟩ := by
  show (if (ownAt own a).isSome = true then _ else _) = _
  exact if_pos (by rw [h]; rfl)
theorem stepP_open (h : ownAt own a = none) : stepP t ⟨(a, false) :: left, rows, own⟩ = ⟨(rowAt t a).2.map (fun n => (n.toNat, false)) ++ (a, true) :: left, rows, own⟩ := by
  show (if (ownAt own a).isSome = true then _ else if false = true then _ else _) = _
  rw [if_neg (by rw [h]; exact Bool.false_ne_true), if_neg Bool.false_ne_true]
theorem stepP_old {k : Nat} (h : ownAt own a = none) (hm : markIx rows (markOf t own a) = some k) : stepP t ⟨(a, true) :: left, rows, own⟩ = ⟨left, rows, own ++ [(a, k)]⟩ := by
  show (if (ownAt own a).isSome = true then _ else if true = true then _ else _) = _
  rw [if_neg (by rw [h]; exact Bool.false_ne_true), if_pos rfl, hm]
theorem stepP_new (h : ownAt own a = none) (hm : markIx rows (markOf t own a) = none) : stepP t ⟨(a, true) :: left, rows, own⟩ = ⟨left, rows ++ [markOf t own a], own ++ [(a, rows.length)]⟩ := by
  show (if (ownAt own a).isSome = true then _ else if true = true then _ else _) = _
  rw [if_neg (by rw [h]; exact Bool.false_ne_true), if_pos rfl, hm]
end
theorem PInv.sizes {t : Tr} {s : PlSt} (h : PInv t s) : s.own.length ≤ t.length ∧ s.rows.length ≤ t.length := by
  have a : s.own.length ≤ t.length := by
    have : (s.own.map (·.1)).length ≤ (List.range t.length).length := List.Nodup.length_le_of_subset h.ownd fun x hx => by
      obtain ⟨p, hp, rfl⟩ := List.mem_map.1 hx
      exact List.mem_range.2 (h.ownl p hp).1
    rw [List.length_map, List.length_range] at this
    exact this
  exact ⟨a, Nat.le_trans h.few a⟩
end Bk
set_option Elab.async false
set_option linter.all false
set_option maxRecDepth 100000
set_option maxHeartbeats 4000000
/-! Bk43: what is printed of a tree. -/
namespace Bk
open PySem PySem.Spec PyProof.Rows L2
/-! ### trees of a wood -/
structure TrW (w : Wd) (t : Tr) : Prop where
  idx : TrIdx t
  row : ∀ (i : Nat) (row : Str × List Int), t[i]? = some row → ∃ j e, PartsAt w ([], []) t i row j e
/-! ### how long the texts are -/
theorem perm_sum {l m : List Nat} (h : l.Perm m) : l.sum = m.sum := by
  induction h with
  | nil => rfl
  | cons x _ ih => rw [List.sum_cons, List.sum_cons, ih]
  | swap x y l => rw [List.sum_cons, List.sum_cons, List.sum_cons, List.sum_cons]; omega
  | trans _ _ a b => rw [a, b]
theorem sub_sum {α : Type} [DecidableEq α] (f : α → Nat) : ∀ (bs L : List α), bs.Nodup → (∀ b ∈ bs, b ∈ L) → (bs.map f).sum ≤ (L.map f).sum
  | [], L, _, _ => Nat.zero_le _
  | b :: bs, L, nd, h => by
    have nd' := List.nodup_cons.1 nd
    have p := List.perm_cons_erase (h b List.mem_cons_self)
    rw [perm_sum (p.map f), List.map_cons, List.map_cons, List.sum_cons, List.sum_cons]
    have := sub_sum f bs (L.erase b) nd'.2 fun c hc => (List.mem_erase_of_ne (fun z => nd'.1 (by rw [← z]; exact hc))).2 (h c (List.mem_cons_of_mem _ hc))
    omega
end Bk
set_option Elab.async false
/-! Bk44: joining sign by sign; the plain tree's printing. -/
namespace Bk
open PySem PySem.Spec PyProof.Rows L2
theorem pr_at {H : Hp} {p : Prn} {v : V} (h : Rep H (prD p) v) : ∃ a c b xs, v = .ref a ∧ H a = some (.tup [.str p.1, .ref c, .ref b]) ∧ H c = some (.tup (p.2.1.map V.int)) ∧ H b = some (.tup xs) ∧ Reps H (p.2.2.map rpD) xs := by
  obtain ⟨a, ys, rfl, ha, rs⟩ := Rep.tupI (show Rep H (.tup [.str p.1, .tup (p.2.1.map D.int), .tup (p.2.2.map rpD)]) v from h)
  obtain ⟨x, r, rfl, hx, rs⟩ := rs
  obtain ⟨y, r, rfl, hy, rs⟩ := rs
  obtain ⟨z, r, rfl, hz, rs⟩ := rs
  cases (show r = [] from rs)
  cases hx.strI
  obtain ⟨c, zs, rfl, hc, rc⟩ := Rep.tupI hy
  obtain ⟨b, xs, rfl, hb, rb⟩ := Rep.tupI hz
  rw [rc.ints] at hc
  exact ⟨a, c, b, xs, rfl, ha, hc, hb, rb⟩
theorem kit_ss : kitB "str" "str" = some true := by decide +kernel
theorem kit_ts : kitB "tuple" "str" = some false := by decide +kernel
theorem kit_st : kitB "str" "tuple" = some false := by decide +kernel
theorem kit_tt : kitB "tuple" "tuple" = some true := by decide +kernel
/-! ### signs of what is printed -/
/-! ### the plain tree's end -/
theorem runP_own {t : Tr} : ∀ (n k : Nat), k < (runP t n).rows.length → ∃ a, (a, k) ∈ (runP t n).own
  | 0, k, h => absurd h (Nat.not_lt_zero _)
  | n + 1, k, h => by
    have ih := runP_own (t := t) n
    have e : runP t (n + 1) = stepP t (runP t n) := rfl
    rw [e] at h ⊢
    generalize runP t n = s at ih h
    obtain ⟨left, rows, own⟩ := s
    cases left with
    | nil => exact ih k h
    | cons p left =>
      obtain ⟨a, b⟩ := p
      cases c : ownAt own a with
      | some kk =>
        rw [stepP_there c] at h ⊢
        exact ih k h
      | none =>
        cases b with
        | false =>
          rw [stepP_open c] at h ⊢
          exact ih k h
        | true =>
          cases cm : markIx rows (markOf t own a) with
          | some q =>
            rw [stepP_old c cm] at h ⊢
            obtain ⟨x, hx⟩ := ih k h
            exact ⟨x, List.mem_append_left _ hx⟩
          | none =>
            rw [stepP_new c cm] at h ⊢
            by_cases ck : k < rows.length
            · obtain ⟨x, hx⟩ := ih k ck
              exact ⟨x, List.mem_append_left _ hx⟩
            · replace h : k < (rows ++ [markOf t own a]).length := h
              rw [List.length_append, List.length_singleton] at h
              have : k = rows.length := by omega
              subst this
              exact ⟨a, List.mem_append_right _ (List.mem_singleton.2 rfl)⟩
structure PlEnd (t r : Tr) : Prop where
  pos : 0 < r.length
  le : r.length ≤ t.length
  idx : TrIdx r
  last : ∀ (β : Type) (d : β) (f : Str → List β → β), (foldV d f r)[r.length - 1]? = (foldV d f t)[t.length - 1]?
  each : ∀ k, k < r.length → ∃ a, a < t.length ∧ ∀ (β : Type) (d : β) (f : Str → List β → β), (foldV d f r)[k]? = (foldV d f t)[a]?
theorem PInv.fin {t : Tr} {n : Nat} (h : PInv t (runP t n)) (hl : (runP t n).left = []) : PlEnd t (runP t n).rows := by
  rcases h.base with ⟨pre, b, e, _⟩ | ⟨_, k, hk, e⟩
  · rw [hl] at e
    cases pre <;> cases e
  · have hm := ownAt_mem hk
    refine ⟨by omega, h.sizes.2, h.idx, fun β d f => ?_, fun j hj => ?_⟩
    · have := h.same _ hm β d f
      rw [← e, Nat.add_sub_cancel]
      exact this
    · obtain ⟨a, ha⟩ := runP_own n j hj
      exact ⟨a, (h.ownl _ ha).1, fun β d f => h.same _ ha β d f⟩
theorem PlEnd.size {t r : Tr} (h : PlEnd t r) {k : Nat} (hk : k < r.length) : ∃ a, a < t.length ∧ szT r k = szT t a := by
  obtain ⟨a, la, e⟩ := h.each k hk
  refine ⟨a, la, ?_⟩
  unfold szT
  rw [List.getD_eq_getElem?_getD, List.getD_eq_getElem?_getD, e]
end Bk
set_option Elab.async false
/-! Bk45: dict(zip(a, b, strict=True)). -/
namespace Bk
open PySem PySem.Spec PyProof.Rows L2
end Bk
set_option Elab.async false
/-! Bk46: slices of tuples from their beginning. -/
namespace Bk
open PySem PySem.Spec PyProof.Rows L2
theorem cutV_take {xs : List V} {i : Int} (h0 : 0 ≤ i) (h1 : i ≤ xs.length) : cutV xs none (some i) = xs.take i.toNat := by
  obtain ⟨k, rfl⟩ := Int.eq_ofNat_of_zero_le h0
  unfold cutV
  rw [HT.sIx_nat, HT.sIx_none, List.drop_zero, Nat.sub_zero, Int.toNat_natCast, Nat.min_eq_left (by omega)]
theorem Reps.take {H : Hp} : ∀ {ds : List D} {vs : List V} (k : Nat), Reps H ds vs → Reps H (ds.take k) (vs.take k)
  | ds, vs, 0, _ => by simp only [List.take_zero, Reps]
  | [], vs, k + 1, h => by
    simp only [Reps] at h
    subst h
    simp only [List.take_nil, Reps]
  | d :: ds, vs, k + 1, h => by
    obtain ⟨v, r, rfl, hv, hr⟩ := h
    exact ⟨v, r.take k, rfl, hv, Reps.take k hr⟩
end Bk
set_option Elab.async false
/-! Bk47: dicts by marks: setdefault, len, list. -/
namespace Bk
open PySem PySem.Spec PyProof.Rows L2
end Bk
set_option Elab.async false
/-! Bk48: the plain tree as a function of the tree alone. -/
namespace Bk
open PySem PySem.Spec PyProof.Rows L2
inductive PT where
  | node (s : Str) (ps : List PT)
instance : Inhabited PT := ⟨.node "" []⟩
mutual
def goT : PT → Tr → Tr × Nat
  | .node s ps, rows =>
    let r := goL ps rows
    match markIx r.1 (s, r.2.map fun n => ((n : Nat) : Int)) with
    | some k => (r.1, k)
    | none => (r.1 ++ [(s, r.2.map fun n => ((n : Nat) : Int))], r.1.length)
def goL : List PT → Tr → Tr × List Nat
  | [], rows => (rows, [])
  | p :: ps, rows =>
    let r := goT p rows
    let r2 := goL ps r.1
    (r2.1, r.2 :: r2.2)
end
def mkI (s : Str) (ks : List Nat) : Mark := (s, ks.map fun n => ((n : Nat) : Int))
theorem goT_node {s : Str} {ps : List PT} {rows : Tr} : goT (.node s ps) rows = match markIx (goL ps rows).1 (mkI s (goL ps rows).2) with
    | some k => ((goL ps rows).1, k)
    | none => ((goL ps rows).1 ++ [mkI s (goL ps rows).2], (goL ps rows).1.length) := by
  rw [goT]
  rfl
theorem goL_cons {p : PT} {ps : List PT} {rows : Tr} : goL (p :: ps) rows = ((goL ps (goT p rows).1).1, (goT p rows).2 :: (goL ps (goT p rows).1).2) := by rw [goL]
theorem goL_nil {rows : Tr} : goL [] rows = (rows, []) := by rw [goL]
mutual
theorem goT_ext : ∀ (p : PT) (rows : Tr), ∃ e, (goT p rows).1 = rows ++ e
  | .node s ps, rows => by
    obtain ⟨e, h⟩ := goL_ext ps rows
    rw [goT_node]
    split
    · exact ⟨e, h⟩
    · exact ⟨e ++ [mkI s (goL ps rows).2], by rw [← List.append_assoc, ← h]⟩
theorem goL_ext : ∀ (ps : List PT) (rows : Tr), ∃ e, (goL ps rows).1 = rows ++ e
  | [], rows => ⟨[], by rw [goL_nil, List.append_nil]⟩
  | p :: ps, rows => by
    obtain ⟨e, h⟩ := goT_ext p rows
    obtain ⟨f, g⟩ := goL_ext ps (goT p rows).1
    rw [goL_cons]
    exact ⟨e ++ f, by show (goL ps (goT p rows).1).1 = _; rw [g, h, List.append_assoc]⟩
end
theorem markIx_app {rows e : Tr} {m : Mark} {k : Nat} (h : markIx rows m = some k) : markIx (rows ++ e) m = some k := by
  unfold markIx at h ⊢
  rw [List.findIdx?_append, h]
  rfl
theorem markIx_last {rows : Tr} {m : Mark} (h : markIx rows m = none) : markIx (rows ++ [m]) m = some rows.length := by
  unfold markIx at h ⊢
  rw [List.findIdx?_append, h]
  simp [List.findIdx?_cons]
/-- it stands there already -/
def AtT (rows : Tr) (p : PT) (k : Nat) : Prop := goT p rows = (rows, k)
def AtL (rows : Tr) (ps : List PT) (ks : List Nat) : Prop := goL ps rows = (rows, ks)
theorem app_nil {α : Type} {l e f : List α} (h : l ++ e ++ f = l) : e = [] ∧ f = [] := by
  have := congrArg List.length h
  rw [List.length_append, List.length_append] at this
  exact ⟨List.eq_nil_of_length_eq_zero (by omega), List.eq_nil_of_length_eq_zero (by omega)⟩
theorem AtT.inv {rows : Tr} {s : Str} {ps : List PT} {k : Nat} (h : AtT rows (.node s ps) k) : ∃ ks, AtL rows ps ks ∧ markIx rows (mkI s ks) = some k := by
  unfold AtT at h
  obtain ⟨e, he⟩ := goL_ext ps rows
  rw [goT_node] at h
  split at h
  · rename_i j hj
    have h1 := congrArg Prod.fst h
    have h2 := congrArg Prod.snd h
    replace h1 : (goL ps rows).1 = rows := h1
    replace h2 : j = k := h2
    refine ⟨(goL ps rows).2, ?_, ?_⟩
    · unfold AtL
      rw [Prod.ext_iff]
      exact ⟨h1, rfl⟩
    · rw [h1, h2] at hj
      exact hj
  · exfalso
    have h1 := congrArg (fun x => x.1.length) h
    replace h1 : ((goL ps rows).1 ++ [mkI s (goL ps rows).2]).length = rows.length := h1
    rw [he, List.length_append, List.length_append, List.length_singleton] at h1
    omega
theorem AtT.mk {rows : Tr} {s : Str} {ps : List PT} {ks : List Nat} {k : Nat} (h : AtL rows ps ks) (m : markIx rows (mkI s ks) = some k) : AtT rows (.node s ps) k := by
  unfold AtT AtL at *
  rw [goT_node, h]
  show (match markIx rows (mkI s ks) with | some k => (rows, k) | none => _) = _
  rw [m]
theorem AtL.inv {rows : Tr} {p : PT} {ps : List PT} {ks : List Nat} (h : AtL rows (p :: ps) ks) : ∃ k ks', ks = k :: ks' ∧ AtT rows p k ∧ AtL rows ps ks' := by
  unfold AtL at h
  rw [goL_cons] at h
  obtain ⟨e, he⟩ := goT_ext p rows
  obtain ⟨f, hf⟩ := goL_ext ps (goT p rows).1
  have h1 := congrArg Prod.fst h
  have h2 := congrArg Prod.snd h
  replace h1 : (goL ps (goT p rows).1).1 = rows := h1
  replace h2 : (goT p rows).2 :: (goL ps (goT p rows).1).2 = ks := h2
  have z := h1
  rw [hf, he] at z
  obtain ⟨z1, z2⟩ := app_nil z
  have g1 : (goT p rows).1 = rows := by rw [he, z1, List.append_nil]
  rw [g1] at h1 h2
  exact ⟨_, _, h2.symm, Prod.ext g1 rfl, Prod.ext h1 rfl⟩
theorem AtL.mk {rows : Tr} {p : PT} {ps : List PT} {k : Nat} {ks : List Nat} (h : AtT rows p k) (t : AtL rows ps ks) : AtL rows (p :: ps) (k :: ks) := by
  unfold AtT AtL at *
  rw [goL_cons, h]
  show ((goL ps rows).1, k :: (goL ps rows).2) = _
  rw [t]
mutual
theorem AtT.app : ∀ (p : PT) {rows : Tr} {k : Nat} (e : Tr), AtT rows p k → AtT (rows ++ e) p k
  | .node s ps, rows, k, e, h => by
    obtain ⟨ks, h1, h2⟩ := h.inv
    exact AtT.mk (AtL.app ps e h1) (markIx_app h2)
theorem AtL.app : ∀ (ps : List PT) {rows : Tr} {ks : List Nat} (e : Tr), AtL rows ps ks → AtL (rows ++ e) ps ks
  | [], rows, ks, e, h => by
    have : ks = [] := by
      unfold AtL at h
      rw [goL_nil] at h
      exact (congrArg Prod.snd h).symm
    subst this
    unfold AtL
    rw [goL_nil]
  | p :: ps, rows, ks, e, h => by
    obtain ⟨k, ks', rfl, h1, h2⟩ := h.inv
    exact AtL.mk (AtT.app p e h1) (AtL.app ps e h2)
end
mutual
theorem go_at : ∀ (p : PT) (rows : Tr), AtT (goT p rows).1 p (goT p rows).2
  | .node s ps, rows => by
    have ih := go_atL ps rows
    rw [goT_node]
    split
    · rename_i k hk
      exact AtT.mk ih hk
    · rename_i hk
      exact AtT.mk (AtL.app ps _ ih) (markIx_last hk)
theorem go_atL : ∀ (ps : List PT) (rows : Tr), AtL (goL ps rows).1 ps (goL ps rows).2
  | [], rows => by
    unfold AtL
    rw [goL_nil, goL_nil]
  | p :: ps, rows => by
    have h1 := go_at p rows
    have h2 := go_atL ps (goT p rows).1
    obtain ⟨f, hf⟩ := goL_ext ps (goT p rows).1
    rw [goL_cons]
    refine AtL.mk ?_ h2
    show AtT (goL ps (goT p rows).1).1 p _
    rw [hf]
    exact AtT.app p f h1
end
/-! ### the run from any state -/
def trP (t : Tr) : List PT := foldV default PT.node t
def trA (t : Tr) (a : Nat) : PT := (trP t).getD a default
theorem trA_at {t : Tr} (ok : TrIdx t) {a : Nat} {r : Str × List Int} (h : t[a]? = some r) : trA t a = .node r.1 (r.2.map fun n => trA t n.toNat) := by
  unfold trA trP
  rw [List.getD_eq_getElem?_getD, foldV_at ok h]
  rfl
inductive StepsP (t : Tr) : PlSt → PlSt → Prop where
  | refl (s) : StepsP t s s
  | step {s u} : StepsP t (stepP t s) u → StepsP t s u
theorem StepsP.trans {t : Tr} {a b c : PlSt} (h : StepsP t a b) (g : StepsP t b c) : StepsP t a c := by
  induction h with
  | refl => exact g
  | step _ ih => exact .step (ih g)
def OwnOk (t : Tr) (rows : Tr) (own : List (Nat × Nat)) : Prop := ∀ a k, ownAt own a = some k → AtT rows (trA t a) k
theorem OwnOk.app {t rows e : Tr} {own : List (Nat × Nat)} (h : OwnOk t rows own) : OwnOk t (rows ++ e) own := fun a k hk => AtT.app _ e (h a k hk)
theorem ownAt_snoc {own : List (Nat × Nat)} {a k : Nat} (h : ownAt own a = none) : ownAt (own ++ [(a, k)]) a = some k := by
  rw [ownAt_app, h, if_pos rfl]
  rfl
/-- what one tree's part of the run does -/
structure Does (t : Tr) (rows : Tr) (own : List (Nat × Nat)) (rows' : Tr) (own' : List (Nat × Nat)) (b : Nat) : Prop where
  ok : OwnOk t rows' own'
  keep : ∀ a k, ownAt own a = some k → ownAt own' a = some k
  low : ∀ a k, ownAt own' a = some k → ownAt own a = some k ∨ a < b
theorem Does.refl {t rows : Tr} {own : List (Nat × Nat)} (h : OwnOk t rows own) (b : Nat) : Does t rows own rows own b := ⟨h, fun _ _ z => z, fun _ _ z => .inl z⟩
theorem Does.trans {t r1 r2 r3 : Tr} {o1 o2 o3 : List (Nat × Nat)} {b : Nat} (h : Does t r1 o1 r2 o2 b) (g : Does t r2 o2 r3 o3 b) : Does t r1 o1 r3 o3 b := ⟨g.ok, fun a k z => g.keep a k (h.keep a k z), fun a k z => by
  rcases g.low a k z with z | z
  · exact h.low a k z
  · exact .inr z⟩
theorem Does.le {t r1 r2 : Tr} {o1 o2 : List (Nat × Nat)} {b c : Nat} (h : Does t r1 o1 r2 o2 b) (l : b ≤ c) : Does t r1 o1 r2 o2 c := ⟨h.ok, h.keep, fun a k z => (h.low a k z).imp id fun z => Nat.lt_of_lt_of_le z l⟩
theorem run_list {t : Tr} {b : Nat} (one : ∀ (a : Nat) (left : List (Nat × Bool)) (rows : Tr) (own : List (Nat × Nat)), a < b → OwnOk t rows own → ∃ own', StepsP t ⟨(a, false) :: left, rows, own⟩ ⟨left, (goT (trA t a) rows).1, own'⟩ ∧ ownAt own' a = some (goT (trA t a) rows).2 ∧ Does t rows own (goT (trA t a) rows).1 own' (a + 1)) :
    ∀ (ns : List Int) (left : List (Nat × Bool)) (rows : Tr) (own : List (Nat × Nat)), (∀ n ∈ ns, n.toNat < b) → OwnOk t rows own →
      ∃ own', StepsP t ⟨ns.map (fun n => (n.toNat, false)) ++ left, rows, own⟩ ⟨left, (goL (ns.map fun n => trA t n.toNat) rows).1, own'⟩ ∧ ns.map (fun n => ownAt own' n.toNat) = (goL (ns.map fun n => trA t n.toNat) rows).2.map some ∧ Does t rows own (goL (ns.map fun n => trA t n.toNat) rows).1 own' b
  | [], left, rows, own, _, ok => ⟨own, by simp only [List.map_nil, goL_nil]; exact .refl _, by simp only [List.map_nil, goL_nil], by simp only [List.map_nil, goL_nil]; exact Does.refl ok b⟩
  | n :: ns, left, rows, own, hb, ok => by
    obtain ⟨o1, s1, a1, d1⟩ := one n.toNat (ns.map (fun n => (n.toNat, false)) ++ left) rows own (hb n List.mem_cons_self) ok
    obtain ⟨o2, s2, a2, d2⟩ := run_list one ns left (goT (trA t n.toNat) rows).1 o1 (fun m hm => hb m (List.mem_cons_of_mem _ hm)) d1.ok
    have hn := hb n List.mem_cons_self
    simp only [List.map_cons, goL_cons]
    refine ⟨o2, s1.trans s2, ?_, (d1.le (by omega)).trans d2⟩
    show ownAt o2 n.toNat :: _ = some _ :: _
    rw [d2.keep _ _ a1, a2]
theorem run_one {t : Tr} (ok : TrIdx t) : ∀ (b a : Nat) (left : List (Nat × Bool)) (rows : Tr) (own : List (Nat × Nat)), a < b → a < t.length → OwnOk t rows own →
    ∃ own', StepsP t ⟨(a, false) :: left, rows, own⟩ ⟨left, (goT (trA t a) rows).1, own'⟩ ∧ ownAt own' a = some (goT (trA t a) rows).2 ∧ Does t rows own (goT (trA t a) rows).1 own' (a + 1)
  | 0, a, _, _, _, h, _, _ => absurd h (Nat.not_lt_zero _)
  | b + 1, a, left, rows, own, hab, la, okk => by
    cases c : ownAt own a with
    | some k =>
      have h := okk a k c
      unfold AtT at h
      rw [h]
      exact ⟨own, .step (by rw [stepP_there c]; exact .refl _), c, Does.refl okk _⟩
    | none =>
      obtain ⟨r, er⟩ : ∃ r, t[a]? = some r := ⟨_, List.getElem?_eq_getElem la⟩
      have ra := rowAt_eq er
      have rix := ok a r er
      obtain ⟨o1, s1, a1, d1⟩ := run_list (t := t) (b := a) (fun a' left' rows' own' h1 h2 => run_one ok b a' left' rows' own' (by omega) (by omega) h2) r.2 ((a, true) :: left) rows own (fun n hn => by have := rix.2 n hn; omega) okk
      have n1 : ownAt o1 a = none := by
        cases z : ownAt o1 a with
        | none => rfl
        | some k =>
          rcases d1.low a k z with z | z
          · rw [c] at z
            cases z
          · exact absurd z (Nat.lt_irrefl _)
      have et := trA_at ok er
      have ms : markOf t o1 a = mkI r.1 (goL (r.2.map fun n => trA t n.toNat) rows).2 := by
        unfold markOf mkI
        rw [ra]
        refine Prod.ext rfl ?_
        show r.2.map (fun n => (((ownAt o1 n.toNat).getD 0 : Nat) : Int)) = _
        have := congrArg (List.map fun x : Option Nat => ((x.getD 0 : Nat) : Int)) a1
        rw [List.map_map, List.map_map] at this
        exact this
      have st : StepsP t ⟨(a, false) :: left, rows, own⟩ ⟨(a, true) :: left, (goL (r.2.map fun n => trA t n.toNat) rows).1, o1⟩ := .step (by rw [stepP_open c, ra]; exact s1)
      rw [et, goT_node]
      have hk := go_at (trA t a) rows
      rw [et, goT_node] at hk
      cases cm : markIx (goL (r.2.map fun n => trA t n.toNat) rows).1 (mkI r.1 (goL (r.2.map fun n => trA t n.toNat) rows).2) with
      | some k =>
        rw [cm] at hk
        refine ⟨o1 ++ [(a, k)], st.trans (.step (by rw [stepP_old n1 (by rw [ms]; exact cm)]; exact .refl _)), ownAt_snoc n1, fun x k' hx => ?_, fun x k' hx => ?_, fun x k' hx => ?_⟩
        · rw [ownAt_app] at hx
          cases z : ownAt o1 x with
          | some y => rw [z] at hx; cases hx; exact d1.ok x k' z
          | none =>
            rw [z] at hx
            by_cases e : a = x
            · rw [if_pos e] at hx
              cases hx
              subst e
              rw [et]
              exact hk
            · rw [if_neg e] at hx
              cases hx
        · rw [ownAt_app, d1.keep x k' hx]
          rfl
        · rw [ownAt_app] at hx
          cases z : ownAt o1 x with
          | some y =>
            rw [z] at hx
            cases hx
            rcases d1.low x k' z with z | z
            · exact .inl z
            · exact .inr (Nat.lt_succ_of_lt z)
          | none =>
            rw [z] at hx
            by_cases e : a = x
            · exact .inr (by omega)
            · rw [if_neg e] at hx
              cases hx
      | none =>
        rw [cm] at hk
        refine ⟨o1 ++ [(a, (goL (r.2.map fun n => trA t n.toNat) rows).1.length)], st.trans (.step (by rw [stepP_new n1 (by rw [ms]; exact cm), ms]; exact .refl _)), ownAt_snoc n1, fun x k' hx => ?_, fun x k' hx => ?_, fun x k' hx => ?_⟩
        · rw [ownAt_app] at hx
          cases z : ownAt o1 x with
          | some y => rw [z] at hx; cases hx; exact AtT.app _ _ (d1.ok x k' z)
          | none =>
            rw [z] at hx
            by_cases e : a = x
            · rw [if_pos e] at hx
              cases hx
              subst e
              rw [et]
              exact hk
            · rw [if_neg e] at hx
              cases hx
        · rw [ownAt_app, d1.keep x k' hx]
          rfl
        · rw [ownAt_app] at hx
          cases z : ownAt o1 x with
          | some y =>
            rw [z] at hx
            cases hx
            rcases d1.low x k' z with z | z
            · exact .inl z
            · exact .inr (Nat.lt_succ_of_lt z)
          | none =>
            rw [z] at hx
            by_cases e : a = x
            · exact .inr (by omega)
            · rw [if_neg e] at hx
              cases hx
/-- the plain tree -/
def plainF (t : Tr) : Tr := (goT (trA t (t.length - 1)) []).1
theorem runP_steps {t : Tr} {u : PlSt} : ∀ {s : PlSt}, StepsP t s u → ∀ n, s = runP t n → ∃ m, n ≤ m ∧ u = runP t m := by
  intro s h
  induction h with
  | refl s => exact fun n e => ⟨n, Nat.le_refl _, e⟩
  | step _ ih =>
    intro n e
    obtain ⟨m, h1, h2⟩ := ih (n + 1) (by rw [e]; rfl)
    exact ⟨m, by omega, h2⟩
theorem runP_stays {t : Tr} {n : Nat} (h : (runP t n).left = []) : ∀ m, n ≤ m → runP t m = runP t n := by
  intro m hm
  induction m with
  | zero => have : n = 0 := by omega
            rw [this]
  | succ m ih =>
    by_cases c : n = m + 1
    · rw [c]
    · rw [show runP t (m + 1) = stepP t (runP t m) from rfl, ih (by omega)]
      generalize runP t n = s at h
      obtain ⟨l, r, o⟩ := s
      replace h : l = [] := h
      subst h
      rfl
theorem runP_ends {t : Tr} (ok : TrIdx t) (h : 0 < t.length) : ∃ m, (runP t m).left = [] ∧ (runP t m).rows = plainF t := by
  obtain ⟨o, s, _, _⟩ := run_one ok t.length (t.length - 1) [] [] [] (by omega) (by omega) (fun a k z => nomatch z)
  obtain ⟨m, _, e⟩ := runP_steps s 0 rfl
  exact ⟨m, by rw [← e], by rw [← e]; rfl⟩
end Bk
set_option Elab.async false
/-! Bk49: the unlike trees of a tree's rows; the plain tree by them. -/
namespace Bk
open PySem PySem.Spec PyProof.Rows L2
/-! ### a list or a tuple walked -/
/-! ### unlike rows -/
def unlStep (s : Tr × List Nat) (r : Str × List Int) : Tr × List Nat :=
  let m := mkI r.1 (r.2.map fun (n : Int) => s.2.getD n.toNat 0)
  match markIx s.1 m with
  | some k => (s.1, s.2 ++ [k])
  | none => (s.1 ++ [m], s.2 ++ [s.1.length])
def unlF (t : Tr) : Tr × List Nat := t.foldl unlStep ([], [])
theorem unlF_snoc {t : Tr} {r : Str × List Int} : unlF (t ++ [r]) = unlStep (unlF t) r := by
  unfold unlF
  rw [List.foldl_append]
  rfl
theorem unlF_take {t : Tr} {i : Nat} {r : Str × List Int} (h : t[i]? = some r) : unlF (t.take (i + 1)) = unlStep (unlF (t.take i)) r := by rw [take_at h, unlF_snoc]
structure Unl (t U : Tr) (num : List Nat) : Prop where
  len : num.length = t.length
  lt : ∀ (i k : Nat), num[i]? = some k → k < U.length
  nd : U.Nodup
  idx : TrIdx U
  le : U.length ≤ t.length
  same : ∀ (i k : Nat), num[i]? = some k → ∀ (β : Type) (d : β) (f : Str → List β → β), (foldV d f U)[k]? = (foldV d f t)[i]?
theorem Unl.step {t U : Tr} {num : List Nat} {r : Str × List Int} (h : Unl t U num) (ok : TrIdx (t ++ [r])) : Unl (t ++ [r]) (unlStep (U, num) r).1 (unlStep (U, num) r).2 := by
  have er : (t ++ [r])[t.length]? = some r := by rw [List.getElem?_append_right (Nat.le_refl _), Nat.sub_self]; rfl
  have rix := ok t.length r er
  obtain ⟨m, em⟩ : ∃ m, m = mkI r.1 (r.2.map fun (n : Int) => num.getD n.toNat 0) := ⟨_, rfl⟩
  have em2 : m = (r.1, (r.2.map fun (n : Int) => num.getD n.toNat 0).map fun n => ((n : Nat) : Int)) := em
  have mnum : ∀ n ∈ r.2, num[n.toNat]? = some (num.getD n.toNat 0) := fun n hn => by
    have := rix.2 n hn
    rw [List.getD_eq_getElem?_getD, List.getElem?_eq_getElem (by rw [h.len]; omega)]
    rfl
  have hval : ∀ (β : Type) (d : β) (f : Str → List β → β), f m.1 (m.2.map fun n => (foldV d f U).getD n.toNat d) = f r.1 (r.2.map fun n => (foldV d f t).getD n.toNat d) := fun β d f => by
    rw [em2]
    show f r.1 (((r.2.map fun (n : Int) => num.getD n.toNat 0).map fun n => ((n : Nat) : Int)).map fun n => (foldV d f U).getD n.toNat d) = _
    rw [List.map_map, List.map_map]
    congr 1
    refine List.map_congr_left fun n hn => ?_
    show (foldV d f U).getD ((num.getD n.toNat 0 : Nat) : Int).toNat d = _
    rw [Int.toNat_natCast, List.getD_eq_getElem?_getD (l := foldV d f U), List.getD_eq_getElem?_getD (l := foldV d f t), h.same _ _ (mnum n hn) β d f]
  have vt : ∀ (β : Type) (d : β) (f : Str → List β → β), (foldV d f (t ++ [r]))[t.length]? = some (f m.1 (m.2.map fun n => (foldV d f U).getD n.toNat d)) := fun β d f => by
    rw [hval β d f, foldV_snoc, List.getElem?_append_right (by rw [foldV_len]; exact Nat.le_refl _), foldV_len, Nat.sub_self]
    rfl
  have told : ∀ (i : Nat), i < t.length → ∀ (β : Type) (d : β) (f : Str → List β → β), (foldV d f (t ++ [r]))[i]? = (foldV d f t)[i]? := fun i hi β d f => by
    rw [foldV_snoc, List.getElem?_append_left (by rw [foldV_len]; exact hi)]
  have mlen : m.2.length ≤ 2 := by rw [em2]; show (List.map _ (List.map _ r.2)).length ≤ 2; rw [List.length_map, List.length_map]; exact rix.1
  have mrow : ∀ n ∈ m.2, 0 ≤ n ∧ n < (U.length : Int) := fun n hn => by
    rw [em2] at hn
    obtain ⟨x, hx, rfl⟩ := List.mem_map.1 hn
    obtain ⟨y, hy, rfl⟩ := List.mem_map.1 hx
    have := h.lt _ _ (mnum y hy)
    omega
  have snoc_get : ∀ {k0 i k : Nat}, (num ++ [k0])[i]? = some k → (i < t.length ∧ num[i]? = some k) ∨ (i = t.length ∧ k = k0) := fun {k0 i k} hk => by
    by_cases c : i < num.length
    · rw [List.getElem?_append_left c] at hk
      exact .inl ⟨by rw [← h.len]; exact c, hk⟩
    · rw [List.getElem?_append_right (by omega)] at hk
      have e : i = num.length := by
        have := (List.getElem?_eq_some_iff.1 hk).1
        rw [List.length_singleton] at this
        omega
      subst e
      rw [Nat.sub_self] at hk
      cases hk
      exact .inr ⟨h.len, rfl⟩
  cases cm : markIx U m with
  | some k0 =>
    have es : unlStep (U, num) r = (U, num ++ [k0]) := by
      show (match markIx U (mkI r.1 (r.2.map fun (n : Int) => num.getD n.toNat 0)) with | some k => (U, num ++ [k]) | none => (U ++ [mkI r.1 (r.2.map fun (n : Int) => num.getD n.toNat 0)], num ++ [U.length])) = _
      rw [← em, cm]
    rw [es]
    have hk := markIx_some cm
    refine ⟨by rw [List.length_append, List.length_append, h.len]; rfl, fun i k hik => ?_, h.nd, h.idx, by rw [List.length_append]; have := h.le; show U.length ≤ _; omega, fun i k hik β d f => ?_⟩
    · rcases snoc_get hik with ⟨_, z⟩ | ⟨_, rfl⟩
      · exact h.lt i k z
      · exact (List.getElem?_eq_some_iff.1 hk).1
    · rcases snoc_get hik with ⟨li, z⟩ | ⟨rfl, rfl⟩
      · rw [told i li]
        exact h.same i k z β d f
      · rw [vt, foldV_at h.idx hk]
  | none =>
    have es : unlStep (U, num) r = (U ++ [m], num ++ [U.length]) := by
      show (match markIx U (mkI r.1 (r.2.map fun (n : Int) => num.getD n.toNat 0)) with | some k => (U, num ++ [k]) | none => (U ++ [mkI r.1 (r.2.map fun (n : Int) => num.getD n.toNat 0)], num ++ [U.length])) = _
      rw [← em, cm]
    rw [es]
    have hm := markIx_none cm
    refine ⟨by rw [List.length_append, List.length_append, h.len]; rfl, fun i k hik => ?_, ?_, h.idx.snoc mlen mrow, by show (U ++ [m]).length ≤ _; rw [List.length_append, List.length_append]; have := h.le; simp; omega, fun i k hik β d f => ?_⟩
    · show k < (U ++ [m]).length
      rw [List.length_append, List.length_singleton]
      rcases snoc_get hik with ⟨_, z⟩ | ⟨_, rfl⟩
      · have := h.lt i k z
        omega
      · omega
    · refine List.nodup_append.2 ⟨h.nd, List.nodup_cons.2 ⟨fun z => (nomatch z), List.nodup_nil⟩, fun x hx y hy => ?_⟩
      rw [List.mem_singleton.1 hy]
      intro z
      rw [z] at hx
      exact hm hx
    · show (foldV d f (U ++ [m]))[k]? = _
      rcases snoc_get hik with ⟨li, z⟩ | ⟨rfl, rfl⟩
      · rw [told i li, foldV_app h.idx m (h.lt i k z)]
        exact h.same i k z β d f
      · rw [vt, foldV_snoc, List.getElem?_append_right (by rw [foldV_len]; exact Nat.le_refl _), foldV_len, Nat.sub_self]
        rfl
theorem Unl.of {t : Tr} (ok : TrIdx t) : ∀ i, i ≤ t.length → Unl (t.take i) (unlF (t.take i)).1 (unlF (t.take i)).2
  | 0, _ => by
    rw [List.take_zero]
    exact ⟨rfl, fun i k h => by simp [unlF] at h, List.nodup_nil, fun i r h => by simp [unlF] at h, Nat.le_refl _, fun i k h => by simp [unlF] at h⟩
  | i + 1, hi => by
    have li : i < t.length := hi
    have er := List.getElem?_eq_getElem li
    have ih := Unl.of ok i (Nat.le_of_lt li)
    rw [unlF_take er]
    rw [take_at er]
    exact ih.step (by rw [← take_at er]; exact ok.take _)
theorem Unl.all {t : Tr} (ok : TrIdx t) : Unl t (unlF t).1 (unlF t).2 := by
  have := Unl.of ok t.length (Nat.le_refl _)
  rw [List.take_length] at this
  exact this
/-! ### unlike rows are unlike trees -/
/-- the size and other values of the plain tree -/
theorem plain_end {t : Tr} (ok : TrIdx t) (h : 0 < t.length) : PlEnd t (plainF t) := by
  obtain ⟨m, h1, h2⟩ := runP_ends ok h
  have inv : ∀ n, PInv t (runP t n) := by
    intro n
    induction n with
    | zero => exact PInv.start h
    | succ n ih =>
      by_cases c : (runP t n).left = []
      · rw [runP_stays c (n + 1) (Nat.le_succ n)]
        exact ih
      · exact (ih.step ok c).1
  rw [← h2]
  exact (inv m).fin h1
theorem runP_inv {t : Tr} (ok : TrIdx t) (h : 0 < t.length) (n : Nat) : PInv t (runP t n) := by
  induction n with
  | zero => exact PInv.start h
  | succ n ih =>
    by_cases c : (runP t n).left = []
    · rw [runP_stays c (n + 1) (Nat.le_succ n)]
      exact ih
    · exact (ih.step ok c).1
/-! ### contracts -/
end Bk
set_option Elab.async false
/-! Bk50: the plain tree by the unlike rows; patterns laid. -/
namespace Bk
open PySem PySem.Spec PyProof.Rows L2
/-! ### the unlike trees up to the whole -/
end Bk
set_option Elab.async false
/-! Bk51: any data compared; patterns laid; what a turned tree is. -/
namespace Bk
open PySem PySem.Spec PyProof.Rows L2
/-! ### any data compared -/
mutual
def D.pd : D → PyData
  | .non => .none | .bl b => .bool b | .int i => .int i | .str s => .str s
  | .tup ds => .tuple (D.pds ds)
  | .lst ds => .list (D.pds ds)
def D.pds : List D → List PyData
  | [] => []
  | d :: ds => d.pd :: D.pds ds
end
mutual
/-- the texts are plain -/
def D.Sig : D → Prop
  | .non => True | .bl _ => True | .int _ => True
  | .str s => ∀ c ∈ s.cps.toList, c < 0x110000
  | .tup ds => D.Sigs ds
  | .lst ds => D.Sigs ds
def D.Sigs : List D → Prop
  | [] => True
  | d :: ds => d.Sig ∧ D.Sigs ds
end
mutual
def D.dep : D → Nat
  | .non => 0 | .bl _ => 0 | .int _ => 0 | .str _ => 0
  | .tup ds => D.deps ds + 1
  | .lst ds => D.deps ds + 1
def D.deps : List D → Nat
  | [] => 0
  | d :: ds => max d.dep (D.deps ds)
end
mutual
theorem D.pd_eqv : ∀ d : D, PyData.eqv d.pd d.pd = true
  | .non => rfl
  | .bl b => by cases b <;> rfl
  | .int i => by show (i == i) = true; simp
  | .str s => by show (s == s) = true; simp
  | .tup ds => D.pds_eqv ds
  | .lst ds => D.pds_eqv ds
theorem D.pds_eqv : ∀ ds : List D, PyData.eqvAll (D.pds ds) (D.pds ds) = true
  | [] => rfl
  | d :: ds => by
    show (PyData.eqv d.pd d.pd && PyData.eqvAll (D.pds ds) (D.pds ds)) = true
    rw [D.pd_eqv d, D.pds_eqv ds]
    rfl
end
mutual
theorem D.pd_dep : ∀ d : D, d.pd.depth = d.dep
  | .non => rfl
  | .bl _ => rfl
  | .int _ => rfl
  | .str _ => rfl
  | .tup ds => congrArg (· + 1) (D.pds_dep ds)
  | .lst ds => congrArg (· + 1) (D.pds_dep ds)
theorem D.pds_dep : ∀ ds : List D, PyData.depthAll (D.pds ds) = D.deps ds
  | [] => rfl
  | d :: ds => by
    show max d.pd.depth (PyData.depthAll (D.pds ds)) = max d.dep (D.deps ds)
    rw [D.pd_dep d, D.pds_dep ds]
end
mutual
theorem D.pd_lay : ∀ d : D, d.Sig → d.pd.canLay0 = true
  | .non, _ => rfl
  | .bl _, _ => rfl
  | .int _, _ => rfl
  | .str s, h => by
    show s.cps.all (· < 0x110000) = true
    rw [Array.all_eq_true']
    intro x hx
    exact decide_eq_true (h x (Array.mem_toList_iff.2 hx))
  | .tup ds, h => D.pds_lay ds h
  | .lst ds, h => D.pds_lay ds h
theorem D.pds_lay : ∀ ds : List D, D.Sigs ds → PyData.canLayAll0 (D.pds ds) = true
  | [], _ => rfl
  | d :: ds, h => by
    show (d.pd.canLay0 && PyData.canLayAll0 (D.pds ds)) = true
    rw [D.pd_lay d h.1, D.pds_lay ds h.2]
    rfl
end
mutual
theorem Rep.dp {K : PySem.W.Frag} {H : Hp} : ∀ {d : D} {v : V}, Rep H d v → Dp K H v d.pd
  | .non, v, h => by obtain rfl : v = .non := by simpa only [Rep] using h
                     exact .non
  | .bl b, v, h => by obtain rfl : v = .bl b := by simpa only [Rep] using h
                      exact .bl b
  | .int i, v, h => by obtain rfl : v = .int i := by simpa only [Rep] using h
                       exact .int i
  | .str s, v, h => by obtain rfl : v = .str s := by simpa only [Rep] using h
                       exact .str s
  | .tup ds, v, h => by
    obtain ⟨a, vs, rfl, ha, r⟩ := h
    exact .tup (sqT ha) (Reps.dps r)
  | .lst ds, v, h => by
    obtain ⟨a, vs, rfl, ha, r⟩ := h
    exact .lst (sqL ha) (Reps.dps r)
theorem Reps.dps {K : PySem.W.Frag} {H : Hp} : ∀ {ds : List D} {vs : List V}, Reps H ds vs → DpAll K H vs (D.pds ds)
  | [], vs, h => by
    obtain rfl : vs = [] := by simpa only [Reps] using h
    exact .nil
  | d :: ds, vs, h => by
    obtain ⟨v, r, rfl, hv, hr⟩ := h
    exact .cons (Rep.dp hv) (Reps.dps hr)
end
theorem D.shaped {d : D} (h : d.Sig) (k : d.dep ≤ 64) : SeqAt.shaped d.pd = true := by
  show (d.pd.canLay0 && decide (d.pd.depth ≤ 64)) = true
  rw [D.pd_lay d h, D.pd_dep, decide_eq_true k]
  rfl
theorem sigs_map {α : Type} {f : α → D} {as : List α} (h : ∀ a ∈ as, (f a).Sig) : D.Sigs (as.map f) := by
  induction as with
  | nil => trivial
  | cons a as ih => exact ⟨h a List.mem_cons_self, ih fun b hb => h b (List.mem_cons_of_mem _ hb)⟩
theorem deps_map {α : Type} {f : α → D} {as : List α} {k : Nat} (h : ∀ a ∈ as, (f a).dep ≤ k) : D.deps (as.map f) ≤ k := by
  induction as with
  | nil => exact Nat.zero_le _
  | cons a as ih =>
    show max (f a).dep (D.deps (as.map f)) ≤ k
    have h1 := h a List.mem_cons_self
    have h2 := ih fun b hb => h b (List.mem_cons_of_mem _ hb)
    omega
/-! ### patterns -/
abbrev PtR := Str × (Int ⊕ List Int)
abbrev Pt := List PtR
/-! ### a pattern laid behind rows -/
theorem trIdx_snoc {t : Tr} {r : Str × List Int} (ok : TrIdx t) (h2 : r.2.length ≤ 2) (h : ∀ n ∈ r.2, 0 ≤ n ∧ n < (t.length : Int)) : TrIdx (t ++ [r]) := fun i q hq => by
  by_cases c : i < t.length
  · rw [List.getElem?_append_left c] at hq
    exact ok i q hq
  · rw [List.getElem?_append_right (by omega)] at hq
    have : i = t.length := by
      have := (List.getElem?_eq_some_iff.1 hq).1
      rw [List.length_singleton] at this
      omega
    subst this
    rw [Nat.sub_self] at hq
    cases hq
    exact ⟨h2, h⟩
/-! ### what it means -/
/-! ### a tree turned -/
end Bk
set_option Elab.async false
/-! Bk52: list.remove of any data; patterns drawn. -/
namespace Bk
open PySem PySem.Spec PyProof.Rows L2
/-! ### list.remove -/
/-! ### patterns and kinds -/
structure PtKs (w : Wd) (pk ks : List Int) (p : Pt) : Prop where
  len : ks.length = p.length
  prt : ∀ (i : Nat) (r : PtR) (k : Int), p[i]? = some r → r.2 = .inl k → r.1 = "part" ∧ 0 ≤ k ∧ k.toNat < pk.length ∧ ks[i]? = pk[k.toNat]?
  mkr : ∀ (i : Nat) (r : PtR) (ns : List Int), p[i]? = some r → r.2 = .inr ns → ∃ e, mkOf w r.1 = some e ∧ ns.length = (dueOf w e).length ∧ ks[i]? = some (e.1 : Int) ∧ ∀ (j : Nat) (n : Int), ns[j]? = some n → 0 ≤ n ∧ n.toNat < i ∧ ks[n.toNat]? = (dueOf w e)[j]?
theorem due_two {w : Wd} (ok : WoodOk w) {e : Nat × Mk} (he : e ∈ tabFrom 0 w) : (dueOf w e).length ≤ 2 := by
  obtain ⟨_, h, h2, _⟩ := dueOf_in ok he
  omega
instance : Inhabited PtR := ⟨("", .inl 0)⟩
theorem PtKs.nil {w : Wd} {pk : List Int} : PtKs w pk [] [] := ⟨rfl, fun i r k h => by simp at h, fun i r ns h => by simp at h⟩
theorem PtKs.part {w : Wd} {pk ks : List Int} {p : Pt} (h : PtKs w pk ks p) {k kd : Int} (k0 : 0 ≤ k) (k1 : k.toNat < pk.length) (hk : pk[k.toNat]? = some kd) : PtKs w pk (ks ++ [kd]) (p ++ ([(("part" : Str), Sum.inl k)] : Pt)) := by
  have l := h.len
  refine ⟨by rw [List.length_append, List.length_append, l]; rfl, fun i r x hr hx => ?_, fun i r ns hr hn => ?_⟩
  · by_cases c : i < p.length
    · rw [List.getElem?_append_left c] at hr
      rw [List.getElem?_append_left (by omega)]
      exact h.prt i r x hr hx
    · rw [List.getElem?_append_right (by omega)] at hr
      have : i = p.length := by
        have := (List.getElem?_eq_some_iff.1 hr).1
        rw [List.length_singleton] at this
        omega
      subst this
      rw [Nat.sub_self] at hr
      cases hr
      cases hx
      refine ⟨rfl, k0, k1, ?_⟩
      rw [List.getElem?_append_right (by omega), ← l, Nat.sub_self, hk]
      rfl
  · by_cases c : i < p.length
    · rw [List.getElem?_append_left c] at hr
      obtain ⟨e, h1, h2, h3, h4⟩ := h.mkr i r ns hr hn
      refine ⟨e, h1, h2, by rw [List.getElem?_append_left (by omega)]; exact h3, fun j n hj => ?_⟩
      obtain ⟨a, b, d⟩ := h4 j n hj
      exact ⟨a, b, by rw [List.getElem?_append_left (by omega)]; exact d⟩
    · rw [List.getElem?_append_right (by omega)] at hr
      have : i = p.length := by
        have := (List.getElem?_eq_some_iff.1 hr).1
        rw [List.length_singleton] at this
        omega
      subst this
      rw [Nat.sub_self] at hr
      cases hr
      cases hn
theorem PtKs.made {w : Wd} {pk ks : List Int} {p : Pt} (h : PtKs w pk ks p) {e : Nat × Mk} {ns : List Int} (he : mkOf w e.2.1 = some e) (hl : ns.length = (dueOf w e).length) (hn : ∀ (j : Nat) (n : Int), ns[j]? = some n → 0 ≤ n ∧ n.toNat < p.length ∧ ks[n.toNat]? = (dueOf w e)[j]?) : PtKs w pk (ks ++ [(e.1 : Int)]) (p ++ ([(e.2.1, Sum.inr ns)] : Pt)) := by
  have l := h.len
  refine ⟨by rw [List.length_append, List.length_append, l]; rfl, fun i r x hr hx => ?_, fun i r ms hr hm => ?_⟩
  · by_cases c : i < p.length
    · rw [List.getElem?_append_left c] at hr
      rw [List.getElem?_append_left (by omega)]
      exact h.prt i r x hr hx
    · rw [List.getElem?_append_right (by omega)] at hr
      have : i = p.length := by
        have := (List.getElem?_eq_some_iff.1 hr).1
        rw [List.length_singleton] at this
        omega
      subst this
      rw [Nat.sub_self] at hr
      cases hr
      cases hx
  · by_cases c : i < p.length
    · rw [List.getElem?_append_left c] at hr
      obtain ⟨e, h1, h2, h3, h4⟩ := h.mkr i r ms hr hm
      refine ⟨e, h1, h2, by rw [List.getElem?_append_left (by omega)]; exact h3, fun j n hj => ?_⟩
      obtain ⟨a, b, d⟩ := h4 j n hj
      exact ⟨a, b, by rw [List.getElem?_append_left (by omega)]; exact d⟩
    · rw [List.getElem?_append_right (by omega)] at hr
      have : i = p.length := by
        have := (List.getElem?_eq_some_iff.1 hr).1
        rw [List.length_singleton] at this
        omega
      subst this
      rw [Nat.sub_self] at hr
      cases hr
      cases hm
      refine ⟨e, he, hl, ?_, fun j n hj => ?_⟩
      · rw [List.getElem?_append_right (by omega), ← l, Nat.sub_self]
        rfl
      · obtain ⟨a, b, d⟩ := hn j n hj
        exact ⟨a, b, by rw [List.getElem?_append_left (by omega)]; exact d⟩
/-- each row from a on, but the last one, is named by a later one -/
def Used (a b : Nat) (p : Pt) : Prop := ∀ i, a ≤ i → i + 1 < b → ∃ (j : Nat) (r : PtR) (ns : List Int), i < j ∧ j < b ∧ p[j]? = some r ∧ r.2 = .inr ns ∧ (i : Int) ∈ ns
theorem Used.app {a b : Nat} {p : Pt} (h : Used a b p) (e : Pt) : Used a b (p ++ e) := fun i h1 h2 => by
  obtain ⟨j, r, ns, a1, a2, a3, a4, a5⟩ := h i h1 h2
  exact ⟨j, r, ns, a1, a2, by rw [List.getElem?_append_left (List.getElem?_eq_some_iff.1 a3).1]; exact a3, a4, a5⟩
/-! ### rows in another order -/
structure Ord (p : Pt) (ord : List Nat) : Prop where
  nd : ord.Nodup
  lt : ∀ a ∈ ord, a < p.length
  top : ∀ (j a : Nat) (r : PtR) (ns : List Int), ord[j]? = some a → p[a]? = some r → r.2 = .inr ns → ∀ n ∈ ns, n.toNat ∈ ord.take j
theorem idxOf_take {l : List Nat} {a j : Nat} (h : a ∈ l.take j) : l.idxOf a < j ∧ l[l.idxOf a]? = some a ∧ (l.take j).idxOf a = l.idxOf a := by
  have e : l.idxOf a = (l.take j).idxOf a := by
    have := List.idxOf_append (l₁ := l.take j) (l₂ := l.drop j) (a := a)
    rw [List.take_append_drop, if_pos h] at this
    exact this
  have l1 := List.idxOf_lt_length_of_mem h
  have l2 : (l.take j).length ≤ j := by rw [List.length_take]; omega
  have m : a ∈ l := List.mem_of_mem_take h
  exact ⟨by omega, by rw [List.getElem?_eq_getElem (List.idxOf_lt_length_of_mem m), List.getElem_idxOf], e.symm⟩
theorem Ord.snoc {p : Pt} {ord : List Nat} {a : Nat} (h : Ord p ord) (ha : a < p.length) (hn : a ∉ ord) (ht : ∀ (r : PtR) (ns : List Int), p[a]? = some r → r.2 = .inr ns → ∀ n ∈ ns, n.toNat ∈ ord) : Ord p (ord ++ [a]) := by
  refine ⟨List.nodup_append.2 ⟨h.nd, List.nodup_cons.2 ⟨fun z => (nomatch z), List.nodup_nil⟩, fun x hx y hy => ?_⟩, fun x hx => ?_, fun j b r ns hb hr hs n hm => ?_⟩
  · rw [List.mem_singleton.1 hy]
    exact fun z => hn (z ▸ hx)
  · rcases List.mem_append.1 hx with z | z
    · exact h.lt x z
    · rw [List.mem_singleton.1 z]
      exact ha
  · by_cases c : j < ord.length
    · rw [List.getElem?_append_left c] at hb
      rw [List.take_append_of_le_length (by omega)]
      exact h.top j b r ns hb hr hs n hm
    · rw [List.getElem?_append_right (by omega)] at hb
      have : j = ord.length := by
        have := (List.getElem?_eq_some_iff.1 hb).1
        rw [List.length_singleton] at this
        omega
      subst this
      rw [Nat.sub_self] at hb
      cases hb
      rw [List.take_left]
      exact ht r ns hr hs n hm
theorem Ord.all {p : Pt} {ord : List Nat} (h : Ord p ord) (hl : ord.length = p.length) {a : Nat} (ha : a < p.length) : a ∈ ord := by
  by_cases c : a ∈ ord
  · exact c
  · exfalso
    have := nodup_sub2 (a :: ord) (List.range p.length) (List.nodup_cons.2 ⟨c, h.nd⟩) fun x hx => by
      rcases List.mem_cons.1 hx with rfl | z
      · exact List.mem_range.2 ha
      · exact List.mem_range.2 (h.lt x z)
    rw [List.length_cons, List.length_range] at this
    omega
/-- the whole comes last -/
theorem Ord.last {p : Pt} {ord : List Nat} (o : Ord p ord) (hl : ord.length = p.length) (h0 : 0 < p.length) (u : Used 0 p.length p) : ord[p.length - 1]? = some (p.length - 1) := by
  obtain ⟨a, ha⟩ : ∃ a, ord[p.length - 1]? = some a := ⟨_, List.getElem?_eq_getElem (by omega)⟩
  rw [ha]
  have la := o.lt a (List.mem_of_getElem? ha)
  by_cases c : a + 1 < p.length
  · exfalso
    obtain ⟨j, r, ns, h1, h2, h3, h4, h5⟩ := u a (Nat.zero_le _) c
    obtain ⟨q, hq⟩ := List.mem_iff_getElem?.1 (o.all hl h2)
    have lq := (List.getElem?_eq_some_iff.1 hq).1
    have ht := o.top q j r ns hq h3 h4 _ h5
    rw [Int.toNat_natCast] at ht
    obtain ⟨t1, t2, _⟩ := idxOf_take ht
    have e1 := (List.getElem?_eq_some_iff.1 ha)
    have e2 := (List.getElem?_eq_some_iff.1 t2)
    obtain ⟨b1, b2⟩ := e1
    obtain ⟨d1, d2⟩ := e2
    have := (List.getElem_inj o.nd (h₀ := b1) (h₁ := d1)).1 (b2.trans d2.symm)
    omega
  · congr 1
    omega
/-! ### how great a pattern's rows are -/
end Bk
set_option Elab.async false
/-! Bk53: turners drawn, trees turned: contracts. -/
namespace Bk
open PySem PySem.Spec PyProof.Rows L2
/-- each kind has a maker of no parts first -/
def FullW (w : Wd) : Prop := ∀ k ∈ w, ∃ (m : Mk) (r : List Mk), k.2 = m :: r ∧ m.2 = []
theorem FullW.at {w : Wd} (h : FullW w) {g : Nat} (hg : g < w.length) : ∃ e ∈ tabFrom 0 w, e.1 = g ∧ e.2.2 = [] := by
  have ek := List.getElem?_eq_getElem hg
  obtain ⟨m, r, e1, e2⟩ := h w[g] (List.getElem_mem hg)
  refine ⟨(g, m), ?_, rfl, e2⟩
  have := tab_mem w 0 g w[g] m ek (by rw [e1]; exact List.mem_cons_self)
  rw [Nat.zero_add] at this
  exact this
/-- everything but three objects stands -/
def But3 (p l r : Addr) (H H' : Hp) : Prop := ∀ b o, b ≠ p → b ≠ l → b ≠ r → H b = some o → H' b = some o
theorem But3.refl {p l r : Addr} {H : Hp} : But3 p l r H H := fun _ _ _ _ _ h => h
theorem But3.trans {p l r : Addr} {H H1 H2 : Hp} (a : But3 p l r H H1) (b : But3 p l r H1 H2) : But3 p l r H H2 := fun x o h1 h2 h3 h => b x o h1 h2 h3 (a x o h1 h2 h3 h)
theorem But3.at_new {p l r d : Addr} {H H1 : Hp} {o : HO} (e : But3 p l r H H1) (n : H d = none) : But3 p l r H (upd H1 d o) := fun x u h1 h2 h3 h => by rw [upd_ne (ne_of_none h n)]; exact e x u h1 h2 h3 h
/-- three lists: all tuples stand -/
theorem But3.tk {p l r : Addr} {H H1 : Hp} {a b c : List V} (e : But3 p l r H H1) (h1 : H p = some (.lst a)) (h2 : H l = some (.lst b)) (h3 : H r = some (.lst c)) : Tk H H1 := fun x ys z =>
  e x _ (ne_of z h1 (fun y => nomatch y)) (ne_of z h2 (fun y => nomatch y)) (ne_of z h3 (fun y => nomatch y)) z
theorem Box.lst {H : Hp} {p : Addr} (h : Box H p) : ∃ xs, H p = some (.lst xs) := by
  obtain ⟨a, b, c, h⟩ := h
  exact ⟨_, h⟩
def natV (l : List Nat) : List V := (l.map fun n => ((n : Nat) : Int)).map V.int
theorem natV_snoc {l : List Nat} {n : Nat} : natV (l ++ [n]) = natV l ++ [.int (n : Nat)] := by
  unfold natV
  rw [List.map_append, List.map_append]
  rfl
end Bk
set_option Elab.async false
/-! Bk54: rows put in another order; things put behind others. -/
namespace Bk
open PySem PySem.Spec PyProof.Rows L2
theorem But3.free {p l r d : Addr} {H H1 : Hp} (e : But3 p l r H H1) {a b c : HO} (hp : H1 p = some a) (hl : H1 l = some b) (hr : H1 r = some c) (n : H1 d = none) : H d = none := by
  cases h : H d with
  | none => rfl
  | some o =>
    have := e d o (fun z => by rw [z, hp] at n; cases n) (fun z => by rw [z, hl] at n; cases n) (fun z => by rw [z, hr] at n; cases n) h
    rw [n] at this
    cases this
end Bk
set_option Elab.async false
/-! Bk55: full woods. -/
namespace Bk
open PySem PySem.Spec PyProof.Rows L2
theorem cutV_drop {xs : List V} {i : Int} (h0 : 0 ≤ i) (h1 : i ≤ xs.length) : cutV xs (some i) none = xs.drop i.toNat := by
  unfold cutV
  have e : HT.sIx xs.length 0 (some i) = i.toNat := by
    show (if i < 0 then (i + (xs.length : Int)).toNat else min i.toNat xs.length) = i.toNat
    rw [if_neg (by omega)]
    omega
  rw [e]
  refine List.take_of_length_le ?_
  have n0 : HT.sIx xs.length xs.length none = xs.length := rfl
  rw [n0, List.length_drop]
  omega
/-- rows of a wood, each with a maker of no parts first -/
def FullR (R : List (List Mk)) : Prop := ∀ r ∈ R, ∃ (m : Mk) (t : List Mk), r = m :: t ∧ m.2 = []
theorem FullR.put {R : List (List Mk)} (h : FullR R) {q : Nat} {r : List Mk} (m : Mk) (hr : R[q]? = some r) : FullR (R.set q (r ++ [m])) := fun x hx => by
  rcases List.mem_or_eq_of_mem_set hx with z | rfl
  · exact h x z
  · obtain ⟨m0, t, rfl, e⟩ := h r (List.mem_of_getElem? hr)
    exact ⟨m0, t ++ [m], rfl, e⟩
end Bk
set_option Elab.async false
/-! Bk56: what a turned tree is like. -/
namespace Bk
open PySem PySem.Spec PyProof.Rows L2
/-- the names of the plain tree -/
theorem plain_names {t : Tr} {P : Str → Prop} (ok : TrIdx t) (h0 : 0 < t.length) (h : ∀ r ∈ t, P r.1) : ∀ r ∈ plainF t, P r.1 := fun r hr => by
  obtain ⟨m, h1, h2⟩ := runP_ends ok h0
  have inv := runP_inv ok h0 m
  rw [← h2] at hr
  obtain ⟨k, hk⟩ := List.mem_iff_getElem?.1 hr
  obtain ⟨a, la, e, _⟩ := inv.rowl k r hk
  have ea := List.getElem?_eq_getElem la
  rw [rowAt_eq ea] at e
  rw [e]
  exact h _ (List.getElem_mem la)
theorem sizesM {α : Type} {f : α → D} {k : Nat} : ∀ {as : List α}, (∀ a ∈ as, (f a).size ≤ k) → D.sizes (as.map f) ≤ k * as.length
  | [], _ => Nat.zero_le _
  | a :: as, h => by
    have h1 := h a List.mem_cons_self
    have h2 := sizesM (as := as) fun b hb => h b (List.mem_cons_of_mem _ hb)
    show (f a).size + D.sizes (as.map f) ≤ k * (as.length + 1)
    rw [Nat.mul_succ]
    omega
theorem row_size {r : Str × List Int} (h : r.2.length ≤ 2) : (rowD r).size ≤ 5 := by
  have := sizesM (f := D.int) (k := 1) (as := r.2) fun _ _ => Nat.le_refl _
  show 1 + (1 + ((1 + D.sizes (r.2.map D.int)) + 0)) ≤ 5
  omega
theorem tree_size {t : Tr} (h : TrIdx t) : (treeD t).size ≤ 1 + 5 * t.length := by
  have := sizesM (f := rowD) (k := 5) (as := t) fun r hr => by
    obtain ⟨i, hi⟩ := List.mem_iff_getElem?.1 hr
    exact row_size (h i r hi).1
  show 1 + D.sizes (t.map rowD) ≤ _
  omega
end Bk
set_option Elab.async false
/-! Bk57: a turned tree is a tree of the second wood, and how great it is. -/
namespace Bk
open PySem PySem.Spec PyProof.Rows L2
theorem snoc_at {α : Type} {l : List α} {x y : α} {i : Nat} (h : (l ++ [x])[i]? = some y) : (i < l.length ∧ l[i]? = some y) ∨ (i = l.length ∧ x = y) := by
  by_cases c : i < l.length
  · rw [List.getElem?_append_left c] at h
    exact .inl ⟨c, h⟩
  · rw [List.getElem?_append_right (by omega)] at h
    have : i = l.length := by
      have := (List.getElem?_eq_some_iff.1 h).1
      rw [List.length_singleton] at this
      omega
    subst this
    rw [Nat.sub_self] at h
    cases h
    exact .inr ⟨rfl, rfl⟩
theorem TrW.snoc {w : Wd} {t : Tr} {row : Str × List Int} {e : Nat × Mk} (h : TrW w t) (ok : WoodOk w) (he : mkOf w row.1 = some e) (hl : row.2.length = (dueOf w e).length) (hn : ∀ (u : Nat) (n : Int), row.2[u]? = some n → 0 ≤ n ∧ n < (t.length : Int) ∧ (dueOf w e)[u]? = some (kindAt w (rowAt t n.toNat).1)) : TrW w (t ++ [row]) := by
  have two := due_two ok (mkOf_some he).1
  refine ⟨trIdx_snoc h.idx (by omega) fun n hm => ?_, fun i r hi => ?_⟩
  · obtain ⟨u, hu⟩ := List.mem_iff_getElem?.1 hm
    obtain ⟨a, b, _⟩ := hn u n hu
    exact ⟨a, b⟩
  · rcases snoc_at hi with ⟨li, hi'⟩ | ⟨rfl, rfl⟩
    · obtain ⟨j, e, pa⟩ := h.row i r hi'
      refine ⟨j, e, pa.tab, pa.nm, pa.len, pa.two, fun u n hu => ?_, pa.kind⟩
      obtain ⟨a, b, q, hq, hd⟩ := pa.idx u n hu
      exact ⟨a, b, q, by rw [List.getElem?_append_left (by omega)]; exact hq, hd⟩
    · obtain ⟨m1, m2⟩ := mkOf_some he
      obtain ⟨j, hj⟩ := List.mem_iff_getElem?.1 m1
      refine ⟨j, e, hj, m2, hl, by omega, fun u n hu => ?_, by unfold kindAt; rw [he]⟩
      obtain ⟨a, b, c⟩ := hn u n hu
      have en := List.getElem?_eq_getElem (l := t) (i := n.toNat) (by omega)
      rw [rowAt_eq en] at c
      exact ⟨a, b, t[n.toNat], by rw [List.getElem?_append_left (by omega)]; exact en, c⟩
end Bk
set_option Elab.async false
/-! Bk58: printers behind turners. -/
namespace Bk
open PySem PySem.Spec PyProof.Rows L2
/-! ### values of trees as such -/
section
variable {β : Type}
mutual
def evT (f : Str → List β → β) : PT → β
  | .node s ps => f s (evL f ps)
def evL (f : Str → List β → β) : List PT → List β
  | [] => []
  | p :: ps => evT f p :: evL f ps
end
theorem evL_map (f : Str → List β → β) : ∀ ps : List PT, evL f ps = ps.map (evT f)
  | [] => by rw [evL]; rfl
  | p :: ps => by rw [evL, evL_map f ps]; rfl
theorem evT_node (f : Str → List β → β) (s : Str) (ps : List PT) : evT f (.node s ps) = f s (ps.map (evT f)) := by rw [evT, evL_map]
end
/-! ### texts put together -/
end Bk
set_option Elab.async false
/-! Bk59: what a printer behind a turner is, and what it prints. -/
namespace Bk
open PySem PySem.Spec PyProof.Rows L2
/-! ### what it prints -/
end Bk
set_option Elab.async false
/-! Bk60: the printer behind fits; contracts. -/
namespace Bk
open PySem PySem.Spec PyProof.Rows L2
/-! ### a printer's rows -/
end Bk
set_option Elab.async false
/-! Bk61: printers behind turners: contracts, lists told anew. -/
namespace Bk
open PySem PySem.Spec PyProof.Rows L2
/-! ### o[i] += text -/
/-! ### what stands on no older list -/
def nw (H0 H : Hp) : Hp := fun a => match H0 a with
  | some (.lst _) => none
  | _ => H a
/-- from later lists to older ones -/
def Ls (H0 H : Hp) : Prop := ∀ a xs, H0 a = some (.lst xs) → ∃ ys, H a = some (.lst ys)
theorem Ls.ex {H0 H : Hp} (e : Ex H0 H) : Ls H0 H := fun a xs h => ⟨xs, e _ _ h⟩
theorem Ls.trans {H0 H1 H2 : Hp} (a : Ls H0 H1) (b : Ls H1 H2) : Ls H0 H2 := fun x xs h => by
  obtain ⟨ys, h1⟩ := a x xs h
  exact b x ys h1
/-! ### a comprehension whose items may be new lists -/
/-! ### rows as lists -/
theorem Rep.lstO {H : Hp} {ds : List D} {a : Addr} {xs : List V} (ha : H a = some (.lst xs)) (h : Reps H ds xs) : Rep H (.lst ds) (.ref a) := by
  simp only [Rep]
  exact ⟨a, xs, rfl, ha, h⟩
/-! ### signs -/
/-! ### contracts -/
end Bk
set_option Elab.async false
/-! Bk62: how many rows a pattern's printers have. -/
namespace Bk
open PySem PySem.Spec PyProof.Rows L2
end Bk
set_option Elab.async false
/-! Bk63: how great a printer behind is. -/
namespace Bk
open PySem PySem.Spec PyProof.Rows L2
end Bk
set_option Elab.async false
/-! Bk64: sum(.., start=k), max(.., default=k). -/
namespace Bk
open PySem PySem.Spec PyProof.Rows L2
end Bk
set_option Elab.async false
/-! Bk65: heights, sizes, the plain tree by an order of the unlike rows. -/
namespace Bk
open PySem PySem.Spec PyProof.Rows L2
def plT (p : PT) : Tr := (goT p []).1
theorem plainF_eq (t : Tr) : plainF t = plT (trA t (t.length - 1)) := rfl
theorem trA_take {t : Tr} {k a : Nat} (hk : k ≤ t.length) (ha : a < k) : trA (t.take k) a = trA t a := by
  unfold trA trP
  rw [List.getD_eq_getElem?_getD, List.getD_eq_getElem?_getD, ← foldV_pre k hk, List.getElem?_take, if_pos ha]
/-! ### heights -/
/-! ### an order of rows, each behind its parts -/
structure OrdOk (U : Tr) (ord : List Nat) : Prop where
  nd : ord.Nodup
  lt : ∀ a ∈ ord, a < U.length
  cl : ∀ (a : Nat), a ∈ ord → ∀ n ∈ (rowAt U a).2, n.toNat ∈ ord
def rowO (U : Tr) (ord : List Nat) (a : Nat) : Mark := mkI (rowAt U a).1 ((rowAt U a).2.map fun n => ord.idxOf n.toNat)
def rowsO (U : Tr) (ord : List Nat) : Tr := ord.map (rowO U ord)
theorem OrdOk.nil (U : Tr) : OrdOk U [] := ⟨List.nodup_nil, fun a z => (nomatch z), fun a z => (nomatch z)⟩
theorem OrdOk.snoc {U : Tr} {ord : List Nat} (h : OrdOk U ord) {a : Nat} (la : a < U.length) (na : a ∉ ord) (hp : ∀ n ∈ (rowAt U a).2, n.toNat ∈ ord) : OrdOk U (ord ++ [a]) := by
  refine ⟨List.nodup_append.2 ⟨h.nd, List.nodup_cons.2 ⟨fun z => (nomatch z), List.nodup_nil⟩, fun x hx y hy => ?_⟩, fun b hb => ?_, fun b hb n hn => ?_⟩
  · rw [List.mem_singleton.1 hy]
    exact fun z => na (z ▸ hx)
  · rcases List.mem_append.1 hb with z | z
    · exact h.lt b z
    · rw [List.mem_singleton.1 z]
      exact la
  · rcases List.mem_append.1 hb with z | z
    · exact List.mem_append_left _ (h.cl b z n hn)
    · rw [List.mem_singleton.1 z] at hn
      exact List.mem_append_left _ (hp n hn)
theorem idx_inj {ord : List Nat} {x y : Nat} (hx : x ∈ ord) (hy : y ∈ ord) (h : ord.idxOf x = ord.idxOf y) : x = y := by
  have a := List.getElem_idxOf (List.idxOf_lt_length_iff.2 hx)
  have b := List.getElem_idxOf (List.idxOf_lt_length_iff.2 hy)
  rw [← a, ← b]
  congr 1
theorem mk_inj {U : Tr} {ord : List Nat} {a b : Nat} (ix : TrIdx U) (nd : U.Nodup) (la : a < U.length) (lb : b < U.length) (ha : ∀ n ∈ (rowAt U a).2, n.toNat ∈ ord) (hb : ∀ n ∈ (rowAt U b).2, n.toNat ∈ ord) (h : rowO U ord a = rowO U ord b) : a = b := by
  have ea := List.getElem?_eq_getElem la
  have eb := List.getElem?_eq_getElem lb
  have ra := rowAt_eq ea
  have rb := rowAt_eq eb
  unfold rowO mkI at h
  have h1 := congrArg Prod.fst h
  have h2 := congrArg Prod.snd h
  replace h1 : (rowAt U a).1 = (rowAt U b).1 := h1
  replace h2 : ((rowAt U a).2.map fun n => ord.idxOf n.toNat).map (fun n => ((n : Nat) : Int)) = ((rowAt U b).2.map fun n => ord.idxOf n.toNat).map fun n => ((n : Nat) : Int) := h2
  rw [List.map_map, List.map_map] at h2
  have key : ∀ (l m : List Int), (∀ n ∈ l, 0 ≤ n ∧ n.toNat ∈ ord) → (∀ n ∈ m, 0 ≤ n ∧ n.toNat ∈ ord) → l.map ((fun n => ((n : Nat) : Int)) ∘ fun n => ord.idxOf n.toNat) = m.map ((fun n => ((n : Nat) : Int)) ∘ fun n => ord.idxOf n.toNat) → l = m := fun l => by
    induction l with
    | nil =>
      intro m _ _ e
      cases m with
      | nil => rfl
      | cons y m => cases e
    | cons x l ih =>
      intro m hl hm e
      cases m with
      | nil => cases e
      | cons y m =>
        rw [List.map_cons, List.map_cons] at e
        injection e with e1 e2
        replace e1 : ((ord.idxOf x.toNat : Nat) : Int) = (ord.idxOf y.toNat : Nat) := e1
        obtain ⟨x0, xm⟩ := hl x List.mem_cons_self
        obtain ⟨y0, ym⟩ := hm y List.mem_cons_self
        have z := idx_inj xm ym (by omega)
        have e3 : x = y := by omega
        rw [e3, ih m (fun n hn => hl n (List.mem_cons_of_mem _ hn)) (fun n hn => hm n (List.mem_cons_of_mem _ hn)) e2]
  have h3 := key _ _ (fun n hn => ⟨by rw [ra] at hn; exact ((ix a _ ea).2 n hn).1, ha n hn⟩) (fun n hn => ⟨by rw [rb] at hn; exact ((ix b _ eb).2 n hn).1, hb n hn⟩) h2
  rw [ra, rb] at h1 h3
  have e : U[a] = U[b] := Prod.ext h1 h3
  exact (List.getElem_inj nd).1 e
theorem AtL_map {R : Tr} {f : Int → PT} {g : Int → Nat} : ∀ {ns : List Int}, (∀ n ∈ ns, AtT R (f n) (g n)) → AtL R (ns.map f) (ns.map g)
  | [], _ => by
    unfold AtL
    rw [List.map_nil, List.map_nil, goL_nil]
  | n :: ns, h => AtL.mk (h n List.mem_cons_self) (AtL_map fun m hm => h m (List.mem_cons_of_mem _ hm))
theorem ord_there {U : Tr} {ord : List Nat} (ix : TrIdx U) (nd : U.Nodup) (h : OrdOk U ord) : ∀ (b a : Nat), a < b → a ∈ ord → AtT (rowsO U ord) (trA U a) (ord.idxOf a)
  | 0, a, hb, _ => absurd hb (Nat.not_lt_zero _)
  | b + 1, a, hb, ha => by
    have la := h.lt a ha
    have ea := List.getElem?_eq_getElem la
    have ra := rowAt_eq ea
    rw [trA_at ix ea]
    refine AtT.mk (ks := (U[a]).2.map fun n => ord.idxOf n.toNat) (AtL_map (f := fun n => trA U n.toNat) (g := fun n => ord.idxOf n.toNat) fun n hn => ?_) ?_
    · have := (ix a _ ea).2 n hn
      exact ord_there ix nd h b n.toNat (by omega) (h.cl a ha n (by rw [ra]; exact hn))
    · have e : mkI (U[a]).1 ((U[a]).2.map fun n => ord.idxOf n.toNat) = rowO U ord a := by
        unfold rowO
        rw [ra]
      rw [e]
      have li := List.idxOf_lt_length_iff.2 ha
      unfold markIx
      rw [List.findIdx?_eq_some_iff_getElem]
      refine ⟨by unfold rowsO; rw [List.length_map]; exact li, ?_, fun j hj => ?_⟩
      · unfold rowsO
        rw [List.getElem_map, List.getElem_idxOf li]
        exact decide_eq_true rfl
      · have lj : j < ord.length := by omega
        unfold rowsO
        rw [List.getElem_map]
        intro z
        have z2 := of_decide_eq_true z
        have mj := List.getElem_mem lj
        have e2 := mk_inj ix nd (h.lt _ mj) la (h.cl _ mj) (h.cl _ ha) z2
        have l3 := List.idxOf_lt_length_iff.2 mj
        have e3 := List.getElem_idxOf l3
        have := (List.getElem_inj h.nd (h₀ := l3) (h₁ := lj)).1 e3
        rw [e2] at this
        omega
theorem goL_open {pre post : List PT} {q : PT} : ∀ {R : Tr} {ks : List Nat}, AtL R pre ks → goL (pre ++ q :: post) R = goL (pre ++ q :: post) (goT q R).1 := by
  induction pre with
  | nil =>
    intro R ks _
    have g := go_at q R
    unfold AtT at g
    rw [List.nil_append, goL_cons, goL_cons, g]
  | cons p pre ih =>
    intro R ks h
    obtain ⟨k, ks', _, h1, h2⟩ := h.inv
    obtain ⟨e, he⟩ := goT_ext q R
    have h1' : AtT (goT q R).1 p k := by rw [he]; exact AtT.app p e h1
    unfold AtT at h1 h1'
    rw [List.cons_append, goL_cons, goL_cons, h1, h1']
    show ((goL (pre ++ q :: post) R).1, k :: (goL (pre ++ q :: post) R).2) = ((goL (pre ++ q :: post) (goT q R).1).1, k :: _)
    rw [ih h2]
theorem ord_open {U : Tr} {ord : List Nat} (ix : TrIdx U) (nd : U.Nodup) (h : OrdOk U ord) {a : Nat} (la : a < U.length) {pre post : List Int} {p : Int} (e : (rowAt U a).2 = pre ++ p :: post) (hp : ∀ n ∈ pre, n.toNat ∈ ord) : (goT (trA U a) (rowsO U ord)).1 = (goT (trA U a) (goT (trA U p.toNat) (rowsO U ord)).1).1 := by
  have ea := List.getElem?_eq_getElem la
  have ra := rowAt_eq ea
  rw [trA_at ix ea]
  rw [ra] at e
  have aL := AtL_map (R := rowsO U ord) (f := fun n => trA U n.toNat) (g := fun n => ord.idxOf n.toNat) (ns := pre) fun n hn => ord_there ix nd h (n.toNat + 1) n.toNat (Nat.lt_succ_self _) (hp n hn)
  have z := goL_open (q := trA U p.toNat) (post := post.map fun n => trA U n.toNat) aL
  rw [goT_node, goT_node, e, List.map_append, List.map_cons, z]
def finO (U : Tr) (S : List Nat) (R : Tr) : Tr := S.foldl (fun R a => (goT (trA U a) R).1) R
end Bk
set_option Elab.async false
/-! Bk66: heights, sizes, parts of trees, trees made of parts, copied: contracts. -/
namespace Bk
open PySem PySem.Spec PyProof.Rows L2
end Bk
set_option Elab.async false
/-! Bk67: trees laid behind one another, trees copied. -/
namespace Bk
open PySem PySem.Spec PyProof.Rows L2
/-! ### places of copies -/
structure PlI (H : Hp) (ps : List Addr) (pl : List (List Nat)) : Prop where
  len : ps.length = pl.length
  nd : ps.Nodup
  at_ : ∀ (q : Nat) (a : Addr) (l : List Nat), ps[q]? = some a → pl[q]? = some l → H a = some (.lst (natV l))
theorem PlI.keep {H H' : Hp} {ps : List Addr} {pl : List (List Nat)} (h : PlI H ps pl) (k : ∀ a ∈ ps, ∀ us, H a = some (.lst us) → H' a = some (.lst us)) : PlI H' ps pl := ⟨h.len, h.nd, fun q a l ha hl => k a (List.mem_of_getElem? ha) _ (h.at_ q a l ha hl)⟩
theorem PlI.snoc {H : Hp} {ps : List Addr} {pl : List (List Nat)} {a : Addr} {l : List Nat} (h : PlI H ps pl) (na : a ∉ ps) (ha : H a = some (.lst (natV l))) : PlI H (ps ++ [a]) (pl ++ [l]) := by
  refine ⟨by rw [List.length_append, List.length_append, h.len]; rfl, List.nodup_append.2 ⟨h.nd, List.nodup_cons.2 ⟨fun z => (nomatch z), List.nodup_nil⟩, fun x hx y hy => ?_⟩, fun q b m hb hm => ?_⟩
  · rw [List.mem_singleton.1 hy]
    exact fun z => na (z ▸ hx)
  · have hl := h.len
    rcases snoc_at hb with ⟨lb, hb'⟩ | ⟨rfl, rfl⟩
    · rw [List.getElem?_append_left (by omega)] at hm
      exact h.at_ q b m hb' hm
    · rw [List.getElem?_append_right (by omega), show ps.length - pl.length = 0 by omega] at hm
      cases hm
      exact ha
theorem PlI.put {H : Hp} {ps : List Addr} {pl : List (List Nat)} {a : Addr} {l : List Nat} {n : Nat} (h : PlI H (ps ++ [a]) (pl ++ [l])) : PlI (upd H a (.lst (natV l ++ [.int (n : Nat)]))) (ps ++ [a]) (pl ++ [l ++ [n]]) := by
  have hl := h.len
  rw [List.length_append, List.length_append] at hl
  replace hl : ps.length = pl.length := Nat.succ.inj hl
  refine ⟨by rw [List.length_append, List.length_append, hl]; rfl, h.nd, fun q b m hb hm => ?_⟩
  rcases snoc_at hb with ⟨lb, hb'⟩ | ⟨rfl, rfl⟩
  · have ne : b ≠ a := fun z => by
      have := (List.nodup_append.1 h.nd).2.2 b (List.mem_of_getElem? hb') a (List.mem_singleton.2 rfl)
      exact this z
    rw [List.getElem?_append_left (by omega)] at hm
    rw [upd_ne ne]
    exact h.at_ q b m hb (by rw [List.getElem?_append_left (by omega)]; exact hm)
  · rw [List.getElem?_append_right (by omega), show ps.length - pl.length = 0 by omega] at hm
    cases hm
    rw [upd_same, natV_snoc]
end Bk
set_option Elab.async false
/-! Bk68: rows looked for in lists of rows; the order of the law's plain tree. -/
namespace Bk
open PySem PySem.Spec PyProof.Rows L2
theorem u65 {k : Nat} {A : Around} (r : Room k A) : A.units + 65 < cLine := by
  have := r.un
  omega
/-! ### lengths -/
theorem ones_sum (l : List Nat) : (l.map fun _ => 1).sum = l.length := by
  induction l with
  | nil => rfl
  | cons a l ih => rw [List.map_cons, List.sum_cons, ih, List.length_cons]; omega
theorem OrdOk.le {U : Tr} {ord : List Nat} (h : OrdOk U ord) : ord.length ≤ U.length := by
  have := sub_sum (fun _ => 1) ord (List.range U.length) h.nd fun b hb => List.mem_range.2 (h.lt b hb)
  rw [ones_sum, ones_sum, List.length_range] at this
  exact this
theorem up_len {n : Nat} : ∀ (S : List Nat) (lo : Nat), S.Pairwise (· < ·) → (∀ x ∈ S, lo ≤ x ∧ x < n) → S = [] ∨ S.length + lo ≤ n
  | [], _, _, _ => .inl rfl
  | a :: S, lo, hp, h => by
    obtain ⟨h1, h2⟩ := List.pairwise_cons.1 hp
    obtain ⟨a1, a2⟩ := h a List.mem_cons_self
    refine .inr ?_
    rcases up_len S (a + 1) h2 (fun x hx => ⟨h1 x hx, (h x (List.mem_cons_of_mem _ hx)).2⟩) with rfl | z
    · show 0 + 1 + lo ≤ n
      omega
    · rw [List.length_cons]
      omega
/-- the state of the law's plain walk -/
structure OSt (U : Tr) (k : Nat) (ord S : List Nat) : Prop where
  ok : OrdOk U ord
  up : S.Pairwise (· < ·)
  st : ∀ a ∈ S, a < U.length ∧ a ∉ ord
  fin : finO U S (rowsO U ord) = plT (trA U k)
theorem OSt.len {U : Tr} {k : Nat} {ord S : List Nat} (h : OSt U k ord S) : S.length ≤ U.length := by
  rcases up_len (n := U.length) S 0 h.up fun x hx => ⟨Nat.zero_le _, (h.st x hx).1⟩ with rfl | z
  · exact Nat.zero_le _
  · omega
theorem OSt.push {U : Tr} {k a : Nat} {ord S : List Nat} (ix : TrIdx U) (nd : U.Nodup) (h : OSt U k ord (a :: S)) {pre post : List Int} {p : Int} (e : (rowAt U a).2 = pre ++ p :: post) (hp : ∀ n ∈ pre, n.toNat ∈ ord) (np : p.toNat ∉ ord) : OSt U k ord (p.toNat :: a :: S) := by
  obtain ⟨la, _⟩ := h.st a List.mem_cons_self
  have ea := List.getElem?_eq_getElem la
  have lp : p.toNat < a := by
    have := (ix a _ ea).2 p (by rw [← rowAt_eq ea, e]; exact List.mem_append_right _ List.mem_cons_self)
    omega
  refine ⟨h.ok, List.pairwise_cons.2 ⟨fun x hx => ?_, h.up⟩, fun x hx => ?_, ?_⟩
  · rcases List.mem_cons.1 hx with rfl | hx
    · exact lp
    · have := (List.pairwise_cons.1 h.up).1 x hx
      omega
  · rcases List.mem_cons.1 hx with rfl | hx
    · exact ⟨by omega, np⟩
    · exact h.st x hx
  · have f := h.fin
    rw [← f]
    unfold finO
    rw [List.foldl_cons, List.foldl_cons, List.foldl_cons, ← ord_open ix nd h.ok la e hp]
end Bk
set_option Elab.async false
/-! Bk69: trees with one top; the law of k09. -/
namespace Bk
open PySem PySem.Spec PyProof.Rows L2
structure TrT (T : PT) (c : Tr) : Prop where
  pos : 0 < c.length
  few : c.length ≤ 400
  idx : TrIdx c
  top : trA c (c.length - 1) = T
  name : ∀ r ∈ c, TextOk r.1
theorem plain_top {t : Tr} (ok : TrIdx t) (h : 0 < t.length) : trA (plainF t) ((plainF t).length - 1) = trA t (t.length - 1) := by
  have pe := plain_end ok h
  have := pe.last PT (default : PT) PT.node
  unfold trA trP
  rw [List.getD_eq_getElem?_getD, List.getD_eq_getElem?_getD, this]
theorem TrT.plain {T : PT} {c : Tr} (h : TrT T c) : TrT T (plainF c) ∧ plainF c = plT T := by
  have pe := plain_end h.idx h.pos
  have l := pe.le
  have f := h.few
  refine ⟨⟨pe.pos, by omega, pe.idx, (plain_top h.idx h.pos).trans h.top, plain_names h.idx h.pos h.name⟩, ?_⟩
  rw [plainF_eq, h.top]
theorem TrT.row {nm : Str} {ps : List PT} {c : Tr} (h : TrT (.node nm ps) c) : (rowAt c (c.length - 1)).1 = nm ∧ (rowAt c (c.length - 1)).2.map (fun n => trA c n.toNat) = ps ∧ ps.length ≤ 2 := by
  have p := h.pos
  have er := List.getElem?_eq_getElem (l := c) (i := c.length - 1) (by omega)
  have e := h.top
  rw [trA_at h.idx er] at e
  injection e with e1 e2
  have r := rowAt_eq er
  rw [r]
  exact ⟨e1, e2, by rw [← e2, List.length_map]; exact (h.idx _ _ er).1⟩
theorem TrT.part {nm : Str} {ps : List PT} {c : Tr} (h : TrT (.node nm ps) c) : ∀ p ∈ ps, TrT p (plT p) ∧ (plT p).length ≤ c.length := fun p hp => by
  obtain ⟨_, e2, _⟩ := h.row
  rw [← e2] at hp
  obtain ⟨n, hn, rfl⟩ := List.mem_map.1 hp
  have q := h.pos
  have er := List.getElem?_eq_getElem (l := c) (i := c.length - 1) (by omega)
  rw [rowAt_eq er] at hn
  have ix := (h.idx _ _ er).2 n hn
  have l : (c.take (n.toNat + 1)).length = n.toNat + 1 := by rw [List.length_take]; omega
  have f := h.few
  have t : TrT (trA c n.toNat) (c.take (n.toNat + 1)) := ⟨by omega, by omega, h.idx.take _, by rw [l, Nat.add_sub_cancel]; exact trA_take (by omega) (Nat.lt_succ_self _), fun r hr => h.name r (List.mem_of_mem_take hr)⟩
  have z := t.plain
  have pl := (plain_end t.idx t.pos).le
  rw [z.2] at pl
  rw [z.2] at z
  exact ⟨z.1, by omega⟩
theorem TrT.parts {nm : Str} {ps : List PT} {c : Tr} (h : TrT (.node nm ps) c) : (∀ t ∈ ps.map plT, 0 < t.length ∧ t.length ≤ 1000 ∧ TrIdx t) ∧ ((ps.map plT).map fun t => trA t (t.length - 1)) = ps := by
  have k := h.part
  refine ⟨fun t ht => ?_, ?_⟩
  · obtain ⟨p, hp, rfl⟩ := List.mem_map.1 ht
    have z := (k p hp).1
    exact ⟨z.pos, Nat.le_trans z.few (by decide), z.idx⟩
  · rw [List.map_map]
    have : (ps.map ((fun t => trA t (t.length - 1)) ∘ plT)) = ps.map id := List.map_congr_left fun p hp => (k p hp).1.top
    rw [this, List.map_id]
theorem TrT.size {T : PT} {c : Tr} (h : TrT T c) : (treeD c).size ≤ 2001 := by
  have := tree_size h.idx
  have := h.few
  omega
end Bk
set_option Elab.async false
/-! Bk70: patterns put into patterns. -/
namespace Bk
open PySem PySem.Spec PyProof.Rows L2
/-! ### values of patterns -/
/-! ### a pattern laid into rows -/
/-! ### a pattern with patterns put in -/
end Bk
set_option Elab.async false
set_option linter.all false
set_option maxRecDepth 100000
set_option maxHeartbeats 4000000
/-! Bk71: numbers and fractions as texts -/
namespace Bk
open PySem PySem.Spec PyProof.Rows L2
/-! ### numbers as texts -/
def numT (i : Int) : Str := ((toString i : String) : Str)
def numTL (i : Int) : List Nat := if i < 0 then 45 :: TL.numL i.natAbs else TL.numL i.natAbs
theorem numT_tl (i : Int) : (numT i).cps.toList = numTL i := by
  unfold numT numTL
  by_cases h : i < 0
  · rw [if_pos h]
    have e : (0 : Int) - i = ((i.natAbs : Nat) : Int) := by omega
    show TL.tl (Str.ofString (toString i)) = _
    rw [TL.tl_ofString, PyProof.Rows.toString_neg h, String.toList_append, List.map_append, ← TL.tl_ofString (toString (0 - i)), e, TL.tl_num]
    rfl
  · rw [if_neg h]
    have e : i = ((i.natAbs : Nat) : Int) := by omega
    show TL.tl (Str.ofString (toString i)) = _
    rw [e, TL.tl_num]
    rfl
theorem numTL_len {i : Int} {k : Nat} (hk : 0 < k) (h : i.natAbs < 10 ^ k) : (numTL i).length ≤ k + 1 := by
  have := TL.numL_len hk h
  unfold numTL
  split
  · rw [List.length_cons]; omega
  · omega
theorem numT_len {i : Int} {k : Nat} (hk : 0 < k) (h : i.natAbs < 10 ^ k) : (numT i).length ≤ k + 1 := by
  rw [str_len, numT_tl]
  exact numTL_len hk h
/-! ### figures -/
/-! ### fractions as texts -/
def showFx (f : Fx) : Str := if f.2 = 1 then numT f.1 else numT f.1 ++ "/" ++ numT f.2
end Bk
set_option Elab.async false
set_option linter.all false
set_option maxRecDepth 100000
set_option maxHeartbeats 4000000
/-! Bk72: int(t, 10), f-strings -/
namespace Bk
open PySem PySem.Spec PyProof.Rows L2
/-! ### int(t, 10) -/
/-! ### f-strings, str, int of texts -/
section
variable {K : PySem.W.Frag} {H : Hp} {Q : VK} {σ : L2.St}
/-- {x}: a text or an int -/
def uFmtV (x : V) (H : Hp) (Q : VK) : Prop := match x with
  | .str y => y.length ≤ 1000000 ∧ Q (.str y) H
  | .int i => i.natAbs.log2 < 1920 ∧ Q (.str (numT i)) H
  | _ => False
def uFmt (te : TE) : TE := fun σ H Q => te σ H fun x H1 => uFmtV x H1 Q
theorem g_fmt {te : TE} (h : te σ H fun x H1 => uFmtV x H1 Q) : uFmt te σ H Q := h
/-- f'..' -/
def uJs (ts : List TE) : TE := fun σ H Q => tJs ts Str.empty σ H fun out H1 => Q (.str out) H1
theorem g_uJs {ts : List TE} (h : tJs ts Str.empty σ H fun out H1 => Q (.str out) H1) : uJs ts σ H Q := h
theorem g_js {t : TE} {ts : List TE} {acc : Str} {R : Str → Hp → Prop} (h : t σ H fun x H1 => ∃ y : Str, x = .str y ∧ (acc ++ y).length ≤ sizeLine ∧ tJs ts (acc ++ y) σ H1 R) : tJs (t :: ts) acc σ H R := h
theorem g_jn {acc : Str} {R : Str → Hp → Prop} (h : R acc H) : tJs [] acc σ H R := h
end
theorem numT_bits {n : Nat} {i : Int} (h : Bits n i) (hn : 0 < n := by decide) : (numT i).length ≤ n + 1 := numT_len hn (Nat.lt_of_lt_of_le h (Nat.pow_le_pow_left (by decide) n))
end Bk
set_option Elab.async false
set_option linter.all false
set_option maxRecDepth 100000
set_option maxHeartbeats 4000000
/-! Bk73: readers as texts -/
namespace Bk
open PySem PySem.Spec PyProof.Rows L2
/-! ### pieces of a text cut at a sign -/
/-! ### terms, sums, rows as texts -/
def wordT (p : Nat) (b : Int) : Str := numT (p : Int) ++ "." ++ numT b
def wordsT : Nat → List (Option Int) → List Str
  | _, [] => []
  | n, none :: bs => wordsT (n + 1) bs
  | n, some b :: bs => wordT n b :: wordsT (n + 1) bs
def termT (t : Tm) : Str := Txt.join " " (showFx t.1 :: wordsT 0 t.2)
/-! ### reading -/
/-- a term that is read back -/
structure TmW (many : Nat) (t : Tm) : Prop where
  low : LowF t.1
  upper : t.1.1.natAbs < 10 ^ 30
  lower : t.1.2.natAbs < 10 ^ 30
  len : t.2.length = many
  box : ∀ b : Int, some b ∈ t.2 → 0 ≤ b ∧ b < 100
/-! ### sums -/
end Bk
set_option Elab.async false
set_option linter.all false
set_option maxRecDepth 100000
set_option maxHeartbeats 4000000
/-! Bk74: contracts of readers as texts -/
namespace Bk
open PySem PySem.Spec PyProof.Rows L2
theorem wordsT_len : ∀ (bs : List (Option Int)) (n : Nat), (wordsT n bs).length ≤ bs.length
  | [], _ => Nat.le_refl _
  | none :: bs, n => Nat.le_succ_of_le (wordsT_len bs (n + 1))
  | some b :: bs, n => Nat.succ_le_succ (wordsT_len bs (n + 1))
theorem small_bits {n : Nat} (h : n ≤ 1000) : Bits 10 (n : Int) := by
  show n < 2 ^ 10
  omega
theorem wordT_len {n : Nat} {b : Int} (hn : n ≤ 1000) (h : Bits 100 b) : (wordT n b).length ≤ 200 := by
  have l1 := numT_bits (small_bits hn)
  have l2 := numT_bits h
  unfold wordT
  rw [app_len, app_len]
  show _ + 1 + _ ≤ _
  omega
theorem wordsT_in : ∀ (bs : List (Option Int)) (n : Nat) (s : Str), s ∈ wordsT n bs → ∃ k b, s = wordT k b ∧ k < n + bs.length ∧ some b ∈ bs
  | [], _, _, h => by cases h
  | none :: bs, n, s, h => by
    obtain ⟨k, b, e, hk, hb⟩ := wordsT_in bs (n + 1) s h
    exact ⟨k, b, e, by rw [List.length_cons]; omega, List.mem_cons_of_mem _ hb⟩
  | some b :: bs, n, s, h => by
    rcases List.mem_cons.1 h with rfl | h
    · exact ⟨n, b, rfl, by rw [List.length_cons]; omega, List.mem_cons_self⟩
    · obtain ⟨k, b, e, hk, hb⟩ := wordsT_in bs (n + 1) s h
      exact ⟨k, b, e, by rw [List.length_cons]; omega, List.mem_cons_of_mem _ hb⟩
theorem showFx_len {f : Fx} {n : Nat} (h1 : Bits n f.1) (h2 : Bits n f.2) (hn : 0 < n := by decide) : (showFx f).length ≤ 2 * n + 3 := by
  have l1 := numT_bits h1 hn
  have l2 := numT_bits h2 hn
  unfold showFx
  split
  · omega
  · rw [app_len, app_len]
    show _ + 1 + _ ≤ _
    omega
end Bk
set_option Elab.async false
set_option linter.all false
set_option maxRecDepth 100000
set_option maxHeartbeats 4000000
/-! Bk75: how long readers' texts are -/
namespace Bk
open PySem PySem.Spec PyProof.Rows L2
/-! ### raised within an except suite -/
theorem g_iS {i j : Int} {gg : Int → Int → V} {C : Int → Int → Prop} {H : Hp} {Q : VK} (hc : C i j) (h : Q (gg i j) H) : uI C gg (.int i) (.int j) H Q := ⟨hc, h⟩
/-! ### loops that nothing leaves: what stands behind them is out of sight -/
/-! ### how long the texts are -/
structure TmL (t : Tm) : Prop where
  upper : Bits 10 t.1.1
  lower : Bits 10 t.1.2
  two : t.2.length ≤ 2
  box : ∀ b : Int, some b ∈ t.2 → Bits 10 b
theorem TmL.len {t : Tm} (h : TmL t) : (termT t).length ≤ 700 := by
  have l1 := showFx_len h.upper h.lower
  have l2 := wordsT_len t.2 0
  have l3 := h.two
  have z := join_len (y := " ") (ps := showFx t.1 :: wordsT 0 t.2) (b := 200) fun s hs => by
    rcases List.mem_cons.1 hs with rfl | hs
    · omega
    · obtain ⟨k, b, rfl, hk, hb⟩ := wordsT_in _ _ _ hs
      exact wordT_len (by omega) ((h.box b hb).le (by decide))
  have e : (" " : Str).length = 1 := by decide
  rw [List.length_cons, e] at z
  have := Nat.mul_le_mul_right 201 (by omega : (wordsT 0 t.2).length + 1 ≤ 3)
  exact Nat.le_trans z (by omega)
theorem FxOk.small {f : Fx} (h : FxOk f) : f.1.natAbs < 10 ^ 30 ∧ f.2.natAbs < 10 ^ 30 := by
  obtain ⟨a, b, c, d⟩ := h
  exact ⟨by omega, by omega⟩
theorem TmOk.w {w : Wd} (ok : WoodOk w) {r : Rd} (h : RdOk w r) {e : Nat × Mk} (he : e ∈ tabFrom 0 w) {t : Tm} (k : TmOk r.1 (dueOf w e) t) : TmW e.2.2.length t := by
  obtain ⟨d1, d2, d3, d4⟩ := dueOf_in ok he
  have tl := k.len
  refine ⟨k.num.low, k.num.small.1, k.num.small.2, tl.trans d2, fun bb hb => ?_⟩
  obtain ⟨u, hu⟩ := List.mem_iff_getElem?.1 hb
  have lu := (List.getElem?_eq_some_iff.1 hu).1
  have eu := List.getElem?_eq_getElem (l := dueOf w e) (i := u) (by omega)
  have z := List.all_eq_true.1 k.box _ (List.mem_of_getElem? (zip_at eu hu))
  replace z : decide (0 ≤ bb ∧ bb < cntAt r.1 ((dueOf w e)[u]'(by omega))) = true := z
  have z2 := of_decide_eq_true z
  obtain ⟨q0, q1⟩ := d4 _ (List.getElem_mem (by omega : u < (dueOf w e).length))
  have c5 : cntAt r.1 ((dueOf w e)[u]'(by omega)) ≤ 4 := by
    unfold cntAt
    rw [List.getD_eq_getElem?_getD, List.getElem?_eq_getElem (by rw [h.counts]; omega)]
    exact (h.count _ (List.getElem_mem _)).2
  omega
/-! ### a reader that is let by -/
/-! ### how great a reader is -/
def AskedR (H : Hp) (x : V) : Prop := ∃ (a : Addr) (w : Wd) (r : Rd) (wv rv : V), x = .ref a ∧ H a = some (.tup [wv, rv]) ∧ Rep H (woodD w) wv ∧ WoodOk w ∧ Rep H (rdD r) rv ∧ RdOk w r
theorem AskedR.tk {H H' : Hp} {x : V} (h : AskedR H x) (e : Tk H H') : AskedR H' x := by
  obtain ⟨a, w, r, wv, rv, h1, h2, h3, h4, h5, h6⟩ := h
  exact ⟨a, w, r, wv, rv, h1, e _ _ h2, h3.tk e (wood_hard w), h4, h5.tk e (rd_hard r), h6⟩
end Bk
set_option Elab.async false
set_option linter.all false
set_option maxRecDepth 100000
set_option maxHeartbeats 4000000
/-! Bk76: fractions as rational numbers -/
namespace Bk
open PySem PySem.Spec PyProof.Rows L2
/-! ### fractions as rational numbers -/
def ratV (f : Fx) : Rat := Rat.divInt f.1 f.2
theorem ratV_low {u l : Int} (h : 0 < l) : ratV (lowF u l) = Rat.divInt u l := by
  obtain ⟨a, b, c, d⟩ := low_parts (u := u) h
  unfold ratV
  have g0 : ((Int.gcd u l : Nat) : Int) ≠ 0 := by
    have : 0 < Int.gcd u l := Int.gcd_pos_of_ne_zero_right _ (by omega)
    omega
  have z := Rat.divInt_mul_right (n := fru u l) (d := frl u l) (a := ((Int.gcd u l : Nat) : Int)) g0
  rw [a, b] at z
  exact z.symm
theorem ratV_add {f g : Fx} (hf : 0 < f.2) (hg : 0 < g.2) : ratV (addF f g) = ratV f + ratV g := by
  unfold addF
  rw [ratV_low (Int.mul_pos hf hg)]
  unfold ratV
  rw [Rat.divInt_add_divInt _ _ (by omega) (by omega)]
theorem ratV_int (n : Int) : ratV (n, 1) = (n : Rat) := by
  show Rat.divInt n ((1 : Nat) : Int) = _
  rw [Rat.divInt_ofNat]
  exact Rat.mkRat_self (n : Rat)
/-! ### what sums of products come to -/
def prodQ : List (List Fx × Option Int) → Rat
  | [] => 1
  | x :: l => (match x.2 with | none => 1 | some i => ratV (x.1.getD i.toNat (0, 1))) * prodQ l
def PosP (parts : List (List Fx)) : Prop := ∀ p ∈ parts, ∀ f ∈ p, 0 < f.2
def termQ (parts : List (List Fx)) (t : Tm) : Rat := ratV t.1 * prodQ (parts.zip t.2)
def sumQ (parts : List (List Fx)) : Sm → Rat
  | [] => 0
  | t :: s => termQ parts t + sumQ parts s
theorem sumQ_app (parts : List (List Fx)) : ∀ s r : Sm, sumQ parts (s ++ r) = sumQ parts s + sumQ parts r
  | [], r => (Rat.zero_add _).symm
  | t :: s, r => by
    show termQ parts t + sumQ parts (s ++ r) = termQ parts t + sumQ parts s + sumQ parts r
    rw [sumQ_app parts s r, Rat.add_assoc]
theorem sumQ_perm (parts : List (List Fx)) {s r : Sm} (h : s.Perm r) : sumQ parts s = sumQ parts r := by
  induction h with
  | nil => rfl
  | cons x _ ih =>
    show termQ parts x + _ = termQ parts x + _
    rw [ih]
  | swap x y l =>
    show termQ parts y + (termQ parts x + sumQ parts l) = termQ parts x + (termQ parts y + sumQ parts l)
    rw [Rat.add_left_comm]
  | trans _ _ a b => exact a.trans b
end Bk
set_option Elab.async false
set_option linter.all false
set_option maxRecDepth 100000
set_option maxHeartbeats 4000000
/-! Bk77: readers with greater numbers; copies of rows -/
namespace Bk
open PySem PySem.Spec PyProof.Rows L2
/-! ### readers with somewhat greater numbers -/
structure TmG (cs ps : List Int) (t : Tm) : Prop where
  low : LowF t.1
  upper : t.1.1.natAbs ≤ 2000
  lower : t.1.2 ≤ 100
  len : t.2.length = ps.length
  box : (ps.zip t.2).all (boxOk cs) = true
structure RdG (w : Wd) (r : Rd) : Prop where
  counts : r.1.length = w.length
  count : ∀ c ∈ r.1, 0 ≤ c ∧ c ≤ 4
  rules : r.2.length = (tabFrom 0 w).length
  rule : ∀ (j : Nat) (e : Nat × Mk) (x : Rl), (tabFrom 0 w)[j]? = some e → r.2[j]? = some x → (x.length : Int) = cntAt r.1 e.1 ∧ ∀ s ∈ x, s.length ≤ 6 ∧ ∀ t ∈ s, TmG r.1 (dueOf w e) t
theorem cnt_leG {w : Wd} {r : Rd} (h : RdG w r) {n : Int} (h0 : 0 ≤ n) (h1 : n < (w.length : Nat)) : 0 ≤ cntAt r.1 n ∧ cntAt r.1 n ≤ 4 := by
  unfold cntAt
  rw [List.getD_eq_getElem?_getD, List.getElem?_eq_getElem (by rw [h.counts]; omega)]
  exact h.count _ (List.getElem_mem _)
theorem RdG.many {w : Wd} (ok : WoodOk w) {r : Rd} (h : RdG w r) {j : Nat} {e : Nat × Mk} {x : Rl} (h1 : (tabFrom 0 w)[j]? = some e) (h2 : r.2[j]? = some x) : x.length ≤ 4 := by
  obtain ⟨a, _⟩ := h.rule j e x h1 h2
  obtain ⟨d1, _⟩ := dueOf_in ok (List.mem_of_getElem? h1)
  have := cnt_leG h (n := ((e.1 : Nat) : Int)) (by omega) (by omega)
  omega
/-! ### what a row reads, and where it is used -/
end Bk
set_option Elab.async false
set_option linter.all false
set_option maxRecDepth 100000
set_option maxHeartbeats 4000000
/-! Bk78: the same by other terms; boxes in another order -/
namespace Bk
open PySem PySem.Spec PyProof.Rows L2
/-! ### sums that come to the same -/
theorem RdG.pos {w : Wd} {r : Rd} (h : RdG w r) {j : Nat} {e : Nat × Mk} {x : Rl} (h1 : (tabFrom 0 w)[j]? = some e) (h2 : r.2[j]? = some x) : ∀ s ∈ x, ∀ t ∈ s, 0 < t.1.2 := fun s hs t ht => (((h.rule j e x h1 h2).2 s hs).2 t ht).low.1
/-! ### boxes in another order -/
structure OrdR (w : Wd) (r : Rd) (os : List (List Int)) : Prop where
  len : os.length = w.length
  all : ∀ (k : Nat) (ks : List Int), os[k]? = some ks → (ks.length : Int) = cntAt r.1 (k : Nat) ∧ ∀ n : Int, n ∈ ks ↔ 0 ≤ n ∧ n < cntAt r.1 (k : Nat)
section
variable {w : Wd} {r : Rd} {os : List (List Int)}
theorem OrdR.get (h : OrdR w r os) {n : Int} (h0 : 0 ≤ n) (h1 : n < (w.length : Nat)) : ((os.getD n.toNat []).length : Int) = cntAt r.1 n ∧ ∀ m : Int, m ∈ os.getD n.toNat [] ↔ 0 ≤ m ∧ m < cntAt r.1 n := by
  have lt : n.toNat < os.length := by rw [h.len]; omega
  have e := List.getElem?_eq_getElem lt
  have z := h.all n.toNat _ e
  rw [List.getD_eq_getElem?_getD, e]
  rw [Int.toNat_of_nonneg h0] at z
  exact z
end
end Bk
set_option Elab.async false
set_option linter.all false
set_option maxRecDepth 100000
set_option maxHeartbeats 4000000
/-! Bk79: terms otherwise, orders -/
namespace Bk
open PySem PySem.Spec PyProof.Rows L2
/-! ### rows in another order -/
/-! ### sums that come to the same -/
theorem sumQ_part (parts : List (List Fx)) {f : Fx} (hf : 0 < f.2) (k : Int) (b : List (Option Int)) : termQ parts (addF f (0 - k, 1), b) + termQ parts ((k, 1), b) = termQ parts (f, b) := by
  unfold termQ
  rw [ratV_add hf (show (0 : Int) < 1 by decide), ratV_int, ratV_int, Int.zero_sub, Rat.intCast_neg]
  generalize prodQ (parts.zip _) = P
  grind
def SameS (s s' : Sm) : Prop := ∀ parts, PosP parts → sumQ parts s = sumQ parts s'
theorem SameS.perm {s s' : Sm} (h : s.Perm s') : SameS s s' := fun parts _ => sumQ_perm parts h
theorem SameS.trans {s s' s'' : Sm} (h : SameS s s') (h' : SameS s' s'') : SameS s s'' := fun parts k => (h parts k).trans (h' parts k)
theorem SameS.part {s : Sm} {f : Fx} {b : List (Option Int)} (hf : 0 < f.2) (k : Int) : SameS (s ++ [(addF f (0 - k, 1), b), ((k, 1), b)]) (s ++ [(f, b)]) := fun parts _ => by
  rw [sumQ_app, sumQ_app]
  show _ + (termQ parts (addF f (0 - k, 1), b) + (termQ parts ((k, 1), b) + 0)) = _ + (termQ parts (f, b) + 0)
  rw [Rat.add_zero, Rat.add_zero, sumQ_part parts hf]
theorem lowN (k : Int) : LowF (k, 1) := ⟨by show (0 : Int) < 1; decide, by show Int.gcd k 1 = 1; rw [Int.gcd_one_right]⟩
theorem TmG.num {cs ps : List Int} {t : Tm} (h : TmG cs ps t) {k : Int} (hk : k.natAbs ≤ 5) : TmG cs ps ((k, 1), t.2) := ⟨lowN k, by show k.natAbs ≤ 2000; omega, by show (1 : Int) ≤ 100; decide, h.len, h.box⟩
/-- a list of terms under way -/
structure OtSt (p L : Addr) (H0 H : Hp) (cs ps : List Int) (s0 s : Sm) (vs : List V) : Prop where
  lst : H L = some (.lst vs)
  rep : Reps H (s.map tmD) vs
  but : But p H0 H
  box : Box H p
  ok : ∀ t ∈ s, TmG cs ps t
  same : SameS s s0
theorem OtSt.len {p L : Addr} {H0 H : Hp} {cs ps : List Int} {s0 s : Sm} {vs : List V} (h : OtSt p L H0 H cs ps s0 s vs) : vs.length = s.length := by rw [h.rep.len, List.length_map]
theorem OtSt.ex {p L : Addr} {H0 H H' : Hp} {cs ps : List Int} {s0 s : Sm} {vs : List V} (h : OtSt p L H0 H cs ps s0 s vs) (e : Ex H H') : OtSt p L H0 H' cs ps s0 s vs := ⟨e _ _ h.lst, h.rep.ex e, h.but.trans (e.but p), h.box.ex e, h.ok, h.same⟩
theorem OtSt.new {p L a : Addr} {H0 H : Hp} {cs ps : List Int} {s0 s : Sm} {vs : List V} {o : HO} (h : OtSt p L H0 H cs ps s0 s vs) (ha : H a = none) : OtSt p L H0 (upd H a o) cs ps s0 s vs := h.ex (Ex.new ha)
theorem OtSt.by {p L : Addr} {H0 H H' : Hp} {cs ps : List Int} {s0 s : Sm} {vs : List V} (h : OtSt p L H0 H cs ps s0 s vs) (hL : H0 L = none) (n : L ≠ p) (b : But p H H') (hb : Box H' p) : OtSt p L H0 H' cs ps s0 s vs := ⟨b _ _ n h.lst, h.rep.tkm (h.box.tk b) tm_hard, h.but.trans b, hb, h.ok, h.same⟩
theorem OtSt.put {p L : Addr} {H0 H : Hp} {cs ps : List Int} {s0 s1 s s' : Sm} {vs vs' : List V} (h : OtSt p L H0 H cs ps s0 s vs) (hL : H0 L = none) (n : L ≠ p) (r : Reps H (s'.map tmD) vs') (ok : ∀ t ∈ s', TmG cs ps t) (sm : SameS s' s1) : OtSt p L H0 (upd H L (.lst vs')) cs ps s1 s' vs' := ⟨upd_same, r.tkm (tk_put h.lst) tm_hard, h.but.at_new hL, h.box.at_upd n, ok, sm⟩
theorem SameS.refl (s : Sm) : SameS s s := fun _ _ => rfl
end Bk
set_option Elab.async false
set_option linter.all false
set_option maxRecDepth 100000
set_option maxHeartbeats 4000000
/-! Bk80: k18: what the law asks -/
namespace Bk
open PySem PySem.Spec PyProof.Rows L2
theorem SzsOk.mono {a b : Int} {t : Tr} {szs : List Int} (h : SzsOk a t szs) (hab : a ≤ b) : SzsOk b t szs := ⟨fun s hs => ⟨(h.le s hs).1, Int.le_trans (h.le s hs).2 hab⟩, h.row⟩
theorem RdG.bnd {w : Wd} (ok : WoodOk w) {r : Rd} (h : RdG w r) : RdrB r := by
  have kds := ok.kinds
  have tabl := ok.many
  have l1 := h.counts
  have l2 := h.rules
  refine ⟨by omega, by omega, fun x hx => ?_⟩
  obtain ⟨j, hj⟩ := List.mem_iff_getElem?.1 hx
  have lj := (List.getElem?_eq_some_iff.1 hj).1
  have e1 := List.getElem?_eq_getElem (l := tabFrom 0 w) (i := j) (by omega)
  have m := h.many ok e1 hj
  obtain ⟨a, b⟩ := h.rule j _ _ e1 hj
  obtain ⟨d1, d2, d3, d4⟩ := dueOf_in ok (List.mem_of_getElem? e1)
  refine ⟨by omega, fun s hs => ⟨by have := (b s hs).1; omega, fun t ht => ?_⟩⟩
  have g := (b s hs).2 t ht
  have gl := g.len
  have gu := g.upper
  have gw := g.lower
  have gp := g.low.1
  refine ⟨by omega, ?_, ?_⟩
  · exact Nat.lt_of_le_of_lt (by omega : t.1.1.natAbs ≤ 2000) (Nat.lt_of_lt_of_le (by decide : 2000 < 2 ^ 11) (Nat.pow_le_pow_right (by decide) (by decide)))
  · exact Nat.lt_of_le_of_lt (by omega : t.1.2.natAbs ≤ 100) (Nat.lt_of_lt_of_le (by decide : 100 < 2 ^ 11) (Nat.pow_le_pow_right (by decide) (by decide)))
/-- the orders drawn -/
structure OrSt (w : Wd) (r : Rd) (H : Hp) (as : List Addr) (os : List (List Int)) : Prop where
  len : as.length = os.length
  lst : ∀ (k : Nat) (b : Addr) (o : List Int), as[k]? = some b → os[k]? = some o → H b = some (.lst (o.map V.int))
  perm : ∀ (k : Nat) (o : List Int), os[k]? = some o → (o.length : Int) = cntAt r.1 (k : Nat) ∧ ∀ n : Int, n ∈ o ↔ 0 ≤ n ∧ n < cntAt r.1 (k : Nat)
theorem OrSt.snoc {w : Wd} {r : Rd} {H H' : Hp} {as : List Addr} {os : List (List Int)} {a : Addr} {o : List Int} (h : OrSt w r H as os) (keep : ∀ b ∈ as, ∀ x, H b = some x → H' b = some x) (ha : H' a = some (.lst (o.map V.int))) (hp : (o.length : Int) = cntAt r.1 ((os.length : Nat) : Int) ∧ ∀ n : Int, n ∈ o ↔ 0 ≤ n ∧ n < cntAt r.1 ((os.length : Nat) : Int)) : OrSt w r H' (as ++ [a]) (os ++ [o]) := by
  refine ⟨by rw [List.length_append, List.length_append, h.len]; rfl, fun k b p e1 e2 => ?_, fun k p e2 => ?_⟩
  · by_cases c : k < as.length
    · rw [List.getElem?_append_left c] at e1
      rw [List.getElem?_append_left (by rw [← h.len]; exact c)] at e2
      exact keep b (List.mem_of_getElem? e1) _ (h.lst k b p e1 e2)
    · rw [List.getElem?_append_right (by omega)] at e1
      rw [List.getElem?_append_right (by rw [← h.len]; omega), ← h.len] at e2
      have z : k - as.length = 0 := by
        have := (List.getElem?_eq_some_iff.1 e1).1
        rw [List.length_singleton] at this
        omega
      rw [z] at e1 e2
      cases e1
      cases e2
      exact ha
  · by_cases c : k < os.length
    · rw [List.getElem?_append_left c] at e2
      exact h.perm k p e2
    · rw [List.getElem?_append_right (by omega)] at e2
      have lz := (List.getElem?_eq_some_iff.1 e2).1
      rw [List.length_singleton] at lz
      have z : k = os.length := by omega
      subst z
      rw [Nat.sub_self] at e2
      cases e2
      exact hp
end Bk
set_option Elab.async false
set_option linter.all false
set_option maxRecDepth 100000
set_option maxHeartbeats 4000000
/-! Bk81: methods of own classes, slices stored, dict.get, tuples many times over -/
namespace Bk
open PySem PySem.Spec PyProof.Rows L2
/-! ### own classes -/
/-! ### slices stored -/
/-! ### dict.get -/
/-! ### tuple * n, short tuples many times over -/
end Bk
set_option Elab.async false
set_option linter.all false
set_option maxRecDepth 100000
set_option maxHeartbeats 4000000
/-! Bk82: trees as words -/
namespace Bk
open PySem PySem.Spec PyProof.Rows L2
/-! ### a tree's word -/
def wordF : Str → List (List Str) → List Str := fun s ws => ws.flatten ++ [s]
def wordP (p : PT) : List Str := evT wordF p
theorem wordP_node (s : Str) (ps : List PT) : wordP (.node s ps) = (ps.map wordP).flatten ++ [s] := by
  unfold wordP
  rw [evT_node]
  rfl
def sizeP (p : PT) : Int := evT szf p
theorem sizeP_node (s : Str) (ps : List PT) : sizeP (.node s ps) = 1 + (ps.map sizeP).sum := by
  unfold sizeP
  rw [evT_node]
  rfl
mutual
theorem wordP_len : ∀ p : PT, ((wordP p).length : Int) = sizeP p
  | .node s ps => by
    rw [wordP_node, sizeP_node, List.length_append]
    have := wordP_lens ps
    show ((_ + 1 : Nat) : Int) = _
    omega
theorem wordP_lens : ∀ ps : List PT, ((ps.map wordP).flatten.length : Int) = (ps.map sizeP).sum
  | [] => rfl
  | p :: ps => by
    have h1 := wordP_len p
    have h2 := wordP_lens ps
    rw [List.map_cons, List.flatten_cons, List.length_append, List.map_cons, List.sum_cons]
    omega
end
theorem size_pos (p : PT) : 1 ≤ sizeP p := by
  cases p with
  | node s ps =>
    rw [← wordP_len, wordP_node, List.length_append]
    show 1 ≤ ((_ + 1 : Nat) : Int)
    omega
/-! ### reading a word -/
abbrev Nm := Str × Option Int
structure StN where
  rows : Tr
  pile : List (Int × Int)
def stepN (w : Wd) (s : StN) (n : Nm) : Option StN := match mkOf w n.1 with
  | none => none
  | some e =>
    if (dueOf w e).length ≤ s.pile.length ∧ (n.2 = none ∨ n.2 = some (((dueOf w e).length : Nat) : Int)) ∧ (s.pile.drop (s.pile.length - (dueOf w e).length)).map Prod.fst = dueOf w e then
      some ⟨s.rows ++ [(n.1, (s.pile.drop (s.pile.length - (dueOf w e).length)).map Prod.snd)], s.pile.take (s.pile.length - (dueOf w e).length) ++ [(((e.1 : Nat) : Int), ((s.rows.length : Nat) : Int))]⟩
    else none
/-- what stands while a word is read -/
structure NInv (w : Wd) (s : StN) : Prop where
  idx : TrIdx s.rows
  name : ∀ r ∈ s.rows, ∃ e, mkOf w r.1 = some e
  pile : ∀ p ∈ s.pile, 0 ≤ p.2 ∧ p.2 < (s.rows.length : Nat) ∧ p.1 = kindAt w (rowAt s.rows p.2.toNat).1
theorem NInv.nil (w : Wd) : NInv w ⟨[], []⟩ := ⟨fun i r h => by simp at h, fun r h => (nomatch h), fun p h => (nomatch h)⟩
theorem rowAt_app {t e : Tr} {a : Nat} (h : a < t.length) : rowAt (t ++ e) a = rowAt t a := by
  unfold rowAt
  rw [List.getD_eq_getElem?_getD, List.getD_eq_getElem?_getD, List.getElem?_append_left h]
theorem rowAt_new {t : Tr} {r : Str × List Int} : rowAt (t ++ [r]) t.length = r := rowAt_eq (by rw [List.getElem?_append_right (Nat.le_refl _), Nat.sub_self]; rfl)
theorem NInv.step {w : Wd} (ok : WoodOk w) {s s' : StN} {n : Nm} (h : NInv w s) (e : stepN w s n = some s') : NInv w s' ∧ s'.rows.length = s.rows.length + 1 ∧ s'.pile.length ≤ s.pile.length + 1 := by
  unfold stepN at e
  split at e
  · cases e
  · rename_i m hm
    split at e
    · rename_i c
      cases e
      have d2 := due_two ok (mkOf_some hm).1
      refine ⟨⟨h.idx.snoc ?_ fun x hx => ?_, fun r hr => ?_, fun p hp => ?_⟩, by rw [List.length_append]; rfl, by rw [List.length_append, List.length_take]; show _ + 1 ≤ _; omega⟩
      · show (List.map _ _).length ≤ 2
        rw [List.length_map, List.length_drop]
        omega
      · obtain ⟨p, hp, rfl⟩ := List.mem_map.1 hx
        obtain ⟨a, b, _⟩ := h.pile p (List.mem_of_mem_drop hp)
        exact ⟨a, b⟩
      · rcases List.mem_append.1 hr with hr | hr
        · exact h.name r hr
        · rw [List.mem_singleton.1 hr]
          exact ⟨m, hm⟩
      · have lr : (s.rows ++ [(n.1, (s.pile.drop (s.pile.length - (dueOf w m).length)).map Prod.snd)]).length = s.rows.length + 1 := by rw [List.length_append]; rfl
        rcases List.mem_append.1 hp with hp | hp
        · obtain ⟨a, b, c⟩ := h.pile p (List.mem_of_mem_take hp)
          exact ⟨a, by rw [lr]; omega, by rw [rowAt_app (by omega)]; exact c⟩
        · rw [List.mem_singleton.1 hp]
          refine ⟨Int.natCast_nonneg _, by rw [lr]; show ((s.rows.length : Nat) : Int) < _; omega, ?_⟩
          show ((m.1 : Nat) : Int) = kindAt w (rowAt _ (((s.rows.length : Nat) : Int).toNat)).1
          rw [Int.toNat_natCast, rowAt_new]
          show _ = kindAt w n.1
          unfold kindAt
          rw [hm]
    · cases e
/-! ### a tree's word, read -/
theorem trA_pre {t e : Tr} {a : Nat} (h : a < t.length) : trA (t ++ e) a = trA t a := by
  have z := trA_take (t := t ++ e) (k := t.length) (by rw [List.length_append]; omega) h
  rw [List.take_left] at z
  exact z.symm
end Bk
set_option Elab.async false
set_option linter.all false
set_option maxRecDepth 100000
set_option maxHeartbeats 4000000
/-! Bk83: words: what stands on the stack, contracts of k10 -/
namespace Bk
open PySem PySem.Spec PyProof.Rows L2
/-! ### the stack of word_of -/
/-! ### contracts -/
end Bk
set_option Elab.async false
set_option linter.all false
set_option maxRecDepth 100000
set_option maxHeartbeats 4000000
/-! Bk84: ints compared, slices from a place on, what is told -/
namespace Bk
open PySem PySem.Spec PyProof.Rows L2
end Bk
set_option Elab.async false
set_option linter.all false
set_option maxRecDepth 100000
set_option maxHeartbeats 4000000
/-! Bk85: trees of a size, chains -/
namespace Bk
open PySem PySem.Spec PyProof.Rows L2
theorem g_eqSame {K : PySem.W.Frag} {H : Hp} {Q : VK} {v w : V} {d : D} (h : Rep H d v) (k : Rep H d w) (hs : d.Sig) (hd : d.dep ≤ 64) (q : Q (.bl true) H) : rEqD K v w H Q := by
  refine ⟨d.pd, d.pd, Rep.dp h, Rep.dp k, D.shaped hs hd, D.shaped hs hd, ?_⟩
  rw [D.pd_eqv]
  exact q
/-! ### trees that grow by one row at the end -/
inductive OfS (a b c : Str) : Tr → Prop where
  | one : OfS a b c [(a, [])]
  | two {t : Tr} : OfS a b c t → OfS a b c (t ++ [(b, [((t.length - 1 : Nat) : Int)])])
  | three {t : Tr} : OfS a b c t → OfS a b c (t ++ [(c, [((t.length - 1 : Nat) : Int), ((t.length - 1 : Nat) : Int)])])
section
variable {a b c : Str} {t : Tr}
theorem OfS.pos (h : OfS a b c t) : 0 < t.length := by
  cases h with
  | one => exact Nat.succ_pos _
  | two _ => rw [List.length_append]; exact Nat.succ_pos _
  | three _ => rw [List.length_append]; exact Nat.succ_pos _
theorem OfS.idx (h : OfS a b c t) : TrIdx t := by
  induction h with
  | one =>
    intro i r hr
    cases i with
    | zero =>
      cases hr
      exact ⟨Nat.zero_le _, fun n hn => (nomatch hn)⟩
    | succ i => cases hr
  | @two t h ih =>
    have p := h.pos
    exact ih.snoc (by show 1 ≤ 2; decide) fun n hn => by rw [List.mem_singleton.1 hn]; omega
  | @three t h ih =>
    have p := h.pos
    refine ih.snoc (by show 2 ≤ 2; decide) fun n hn => ?_
    have e : n = ((t.length - 1 : Nat) : Int) := by
      rcases List.mem_cons.1 hn with e | hn
      · exact e
      · exact List.mem_singleton.1 hn
    rw [e]
    omega
theorem OfS.name (h : OfS a b c t) : ∀ r ∈ t, r.1 = a ∨ r.1 = b ∨ r.1 = c := by
  induction h with
  | one => exact fun r hr => .inl (by rw [List.mem_singleton.1 hr])
  | two _ ih =>
    intro r hr
    rcases List.mem_append.1 hr with hr | hr
    · exact ih r hr
    · exact .inr (.inl (by rw [List.mem_singleton.1 hr]))
  | three _ ih =>
    intro r hr
    rcases List.mem_append.1 hr with hr | hr
    · exact ih r hr
    · exact .inr (.inr (by rw [List.mem_singleton.1 hr]))
theorem top_new {t : Tr} {r : Str × List Int} (h : TrIdx (t ++ [r])) : trA (t ++ [r]) ((t ++ [r]).length - 1) = .node r.1 (r.2.map fun n => trA t n.toNat) := by
  have l : (t ++ [r]).length - 1 = t.length := by rw [List.length_append]; rfl
  have e : (t ++ [r])[t.length]? = some r := by rw [List.getElem?_append_right (Nat.le_refl _), Nat.sub_self]; rfl
  rw [l, trA_at h e]
  congr 1
  refine List.map_congr_left fun n hn => ?_
  have := (h _ _ e).2 n hn
  exact trA_pre (by omega)
theorem top_two {t : Tr} (h : 0 < t.length) (ix : TrIdx t) : trA (t ++ [(b, [((t.length - 1 : Nat) : Int)])]) ((t ++ [(b, [((t.length - 1 : Nat) : Int)])]).length - 1) = .node b [trA t (t.length - 1)] := by
  rw [top_new (ix.snoc (by show 1 ≤ 2; decide) fun n hn => by rw [List.mem_singleton.1 hn]; omega)]
  show PT.node b [trA t (((t.length - 1 : Nat) : Int).toNat)] = _
  rw [Int.toNat_natCast]
theorem OfS.top2 (h : OfS a b c t) : sizeP (trA (t ++ [(b, [((t.length - 1 : Nat) : Int)])]) ((t ++ [(b, [((t.length - 1 : Nat) : Int)])]).length - 1)) = 1 + sizeP (trA t (t.length - 1)) := by
  rw [top_two h.pos h.idx, sizeP_node]
  show 1 + (sizeP _ + 0) = _
  omega
theorem OfS.top3 (h : OfS a b c t) : sizeP (trA (t ++ [(c, [((t.length - 1 : Nat) : Int), ((t.length - 1 : Nat) : Int)])]) ((t ++ [(c, [((t.length - 1 : Nat) : Int), ((t.length - 1 : Nat) : Int)])]).length - 1)) = 1 + 2 * sizeP (trA t (t.length - 1)) := by
  rw [top_new (OfS.three h).idx, sizeP_node]
  show 1 + (sizeP (trA t (((t.length - 1 : Nat) : Int).toNat)) + (sizeP (trA t (((t.length - 1 : Nat) : Int).toNat)) + 0)) = _
  rw [Int.toNat_natCast]
  omega
end
/-! ### sizes on the way to 1 -/
def stepZ (n : Nat) : Nat := if n % 2 = 1 then n / 2 else n - 1
inductive SzL (many : Nat) : List Nat → Prop where
  | one : 1 ≤ many → SzL many [many]
  | step {l : List Nat} {x : Nat} : SzL many (l ++ [x]) → 1 < x → SzL many (l ++ [x] ++ [stepZ x])
theorem SzL.pos {many : Nat} {l : List Nat} (h : SzL many l) : ∀ x ∈ l, 1 ≤ x := by
  induction h with
  | one h => exact fun x hx => by rw [List.mem_singleton.1 hx]; exact h
  | @step l y _ h ih =>
    intro x hx
    rcases List.mem_append.1 hx with hx | hx
    · exact ih x hx
    · rw [List.mem_singleton.1 hx]
      unfold stepZ
      split <;> omega
theorem SzL.next {many : Nat} {l : List Nat} (h : SzL many l) : ∀ i x, l[i]? = some x → i + 1 < l.length → l[i + 1]? = some (stepZ x) ∧ 1 < x := by
  induction h with
  | one _ => exact fun i x hx hi => absurd hi (by rw [List.length_singleton]; omega)
  | @step l y h hy ih =>
    intro i x hx hi
    have ll : (l ++ [y] ++ [stepZ y]).length = l.length + 2 := by rw [List.length_append, List.length_append]; rfl
    have l1 : (l ++ [y]).length = l.length + 1 := by rw [List.length_append]; rfl
    by_cases c : i + 1 < (l ++ [y]).length
    · rw [List.getElem?_append_left (by omega)] at hx
      rw [List.getElem?_append_left c]
      exact ih i x hx c
    · have e : i = l.length := by omega
      subst e
      rw [List.getElem?_append_left (by omega), List.getElem?_append_right (Nat.le_refl _), Nat.sub_self] at hx
      cases hx
      rw [List.getElem?_append_right (by omega), l1, Nat.sub_self]
      exact ⟨rfl, hy⟩
def phiZ (n : Nat) : Nat := 2 * n.log2 + (if n % 2 = 0 then 1 else 0)
theorem phi_step {n : Nat} (h : 1 < n) : phiZ (stepZ n) < phiZ n := by
  unfold phiZ stepZ
  have n2 : n % 2 = 0 ∨ n % 2 = 1 := by omega
  have lg : n.log2 = (n / 2).log2 + 1 := by
    have h0 : n ≠ 0 := by omega
    have h1 : n / 2 ≠ 0 := by omega
    have a1 := Nat.log2_self_le h1
    have a2 : n / 2 < 2 ^ ((n / 2).log2 + 1) := (Nat.log2_lt h1).1 (Nat.lt_succ_self _)
    have b1 : (n / 2).log2 + 1 ≤ n.log2 := (Nat.le_log2 h0).2 (by rw [Nat.pow_succ]; omega)
    have b2 : n.log2 < (n / 2).log2 + 2 := (Nat.log2_lt h0).2 (by rw [Nat.pow_succ] at a2 ⊢; rw [Nat.pow_succ]; omega)
    omega
  rcases n2 with z | z
  · rw [if_neg (by omega), if_pos z, if_neg (by omega)]
    have : (n - 1).log2 ≤ n.log2 := by
      by_cases e : n - 1 = 0
      · rw [e]; exact Nat.zero_le _
      · have h1 := Nat.log2_self_le e
        exact (Nat.le_log2 (by omega)).2 (by omega)
    omega
  · have zz : ¬ n % 2 = 0 := by omega
    rw [if_pos z, if_neg zz]
    split <;> omega
theorem SzL.phi {many : Nat} {l : List Nat} (h : SzL many l) : ∀ m x, l = m ++ [x] → l.length + phiZ x ≤ 1 + phiZ many := by
  induction h with
  | one _ =>
    intro m x e
    have : m = [] ∧ x = many := by
      cases m with
      | nil => cases e; exact ⟨rfl, rfl⟩
      | cons z m =>
        have := congrArg List.length e
        rw [List.length_append, List.length_singleton, List.length_cons, List.length_singleton] at this
        omega
    rw [this.2]
    exact Nat.le_refl _
  | @step l y h hy ih =>
    intro m x e
    obtain ⟨e1, e2⟩ := List.append_inj' e rfl
    cases e2
    have := ih l y rfl
    have := phi_step hy
    rw [List.length_append, List.length_singleton]
    omega
theorem SzL.len {many : Nat} {l : List Nat} (h : SzL many l) (hm : many < 2 ^ 32) : l.length ≤ 64 := by
  have hp : phiZ many ≤ 63 := by
    unfold phiZ
    have : many.log2 ≤ 31 := by
      by_cases e : many = 0
      · rw [e]; decide
      · exact Nat.le_of_lt_succ ((Nat.log2_lt e).2 hm)
    split <;> omega
  obtain ⟨m, x, e⟩ : ∃ m x, l = m ++ [x] := by
    cases h with
    | one _ => exact ⟨[], _, rfl⟩
    | step _ _ => exact ⟨_, _, rfl⟩
  have := h.phi m x e
  by_cases z : phiZ x = 0
  · omega
  · omega
/-! ### the wood of these trees -/
def woodS (a b c k : Str) : Wd := [(k, [(a, []), (b, [k]), (c, [k, k])])]
section
variable {a b c k : Str}
structure WsOk (a b c k : Str) : Prop where
  names : isName a = true ∧ isName b = true ∧ isName c = true ∧ isName k = true
  nd : a ≠ b ∧ a ≠ c ∧ b ≠ c
theorem WsOk.wood (h : WsOk a b c k) : WoodOk (woodS a b c k) := by
  obtain ⟨⟨ha, hb, hc, hk⟩, n1, n2, n3⟩ := h
  refine ⟨⟨Nat.le_refl 1, (show 1 ≤ 4 by decide)⟩, fun q hq => ?_, List.nodup_cons.2 ⟨fun z => (nomatch z), List.nodup_nil⟩, fun q hq m hm => ?_, ?_, (show 3 ≤ 12 by decide)⟩
  · rw [List.mem_singleton.1 hq]
    exact hk
  · rw [List.mem_singleton.1 hq] at hm
    replace hm : m ∈ [(a, []), (b, [k]), (c, [k, k])] := hm
    simp only [List.mem_cons, List.not_mem_nil, or_false] at hm
    rcases hm with rfl | rfl | rfl
    · exact ⟨ha, Nat.zero_le _, fun s hs => (nomatch hs)⟩
    · exact ⟨hb, (show 1 ≤ 2 by decide), fun s hs => hs⟩
    · refine ⟨hc, Nat.le_refl 2, fun s hs => ?_⟩
      simp only [List.mem_cons, List.not_mem_nil, or_false, or_self] at hs
      rw [hs]
      exact List.mem_cons_self
  · show [a, b, c].Nodup
    simp [n1, n2, n3]
theorem kind_zero {w : Wd} {s : Str} {m : Mk} (h : mkOf w s = some (0, m)) : kindAt w s = 0 := by
  unfold kindAt
  rw [h]
  rfl
theorem WsOk.mks (h : WsOk a b c k) : mkOf (woodS a b c k) a = some (0, (a, [])) ∧ mkOf (woodS a b c k) b = some (0, (b, [k])) ∧ mkOf (woodS a b c k) c = some (0, (c, [k, k])) := by
  have nd := h.wood.nd
  exact ⟨mkOf_mem nd (e := (0, (a, []))) (List.mem_cons_self ..), mkOf_mem nd (e := (0, (b, [k]))) (List.mem_cons_of_mem _ List.mem_cons_self), mkOf_mem nd (e := (0, (c, [k, k]))) (List.mem_cons_of_mem _ (List.mem_cons_of_mem _ List.mem_cons_self))⟩
theorem OfS.kind (h : WsOk a b c k) {t : Tr} (o : OfS a b c t) {n : Nat} {q : Str × List Int} (e : t[n]? = some q) : kindAt (woodS a b c k) q.1 = 0 := by
  obtain ⟨m1, m2, m3⟩ := h.mks
  rcases o.name q (List.mem_of_getElem? e) with z | z | z <;> rw [z]
  · exact kind_zero m1
  · exact kind_zero m2
  · exact kind_zero m3
end
/-! ### chains -/
end Bk
set_option Elab.async false
set_option linter.all false
set_option maxRecDepth 100000
set_option maxHeartbeats 4000000
/-! Bk86: shifts, words spoilt: contracts -/
namespace Bk
open PySem PySem.Spec PyProof.Rows L2
end Bk
set_option Elab.async false
set_option linter.all false
set_option maxRecDepth 100000
set_option maxHeartbeats 4000000
/-! Bk87: words of chains, sizes -/
namespace Bk
open PySem PySem.Spec PyProof.Rows L2
theorem OfS.small {a b c : Str} {t : Tr} (o : OfS a b c t) : ∀ i, i < t.length → sizeP (trA t i) ≤ sizeP (trA t (t.length - 1)) := by
  induction o with
  | one =>
    intro i hi
    have : i = 0 := Nat.lt_one_iff.1 hi
    rw [this]
    exact Int.le_refl _
  | @two t o ih =>
    intro i hi
    have l : (t ++ [(b, [((t.length - 1 : Nat) : Int)])]).length = t.length + 1 := by rw [List.length_append]; rfl
    by_cases c : i < t.length
    · rw [trA_pre c, o.top2]
      have := ih i c
      omega
    · have : i = (t ++ [(b, [((t.length - 1 : Nat) : Int)])]).length - 1 := by omega
      rw [this]
      exact Int.le_refl _
  | @three t o ih =>
    intro i hi
    have l : (t ++ [(c, [((t.length - 1 : Nat) : Int), ((t.length - 1 : Nat) : Int)])]).length = t.length + 1 := by rw [List.length_append]; rfl
    by_cases cc : i < t.length
    · rw [trA_pre cc, o.top3]
      have := ih i cc
      have := size_pos (trA t i)
      omega
    · have : i = (t ++ [(c, [((t.length - 1 : Nat) : Int), ((t.length - 1 : Nat) : Int)])]).length - 1 := by rw [l]; omega
      rw [this]
      exact Int.le_refl _
/-! ### words of chains -/
end Bk
set_option Elab.async false
set_option linter.all false
set_option maxRecDepth 100000
set_option maxHeartbeats 4000000
/-! Bk88: texts of trees: how they are spelled -/
namespace Bk
open PySem PySem.Spec PyProof.Rows L2
/-! ### one sign at a place -/
/-! ### the parser -/
abbrev Ops := List (Str × Nat)
/-! ### contracts -/
abbrev flTT (t b : V) : List (Str × V) := [("text", t), ("begin", b)]
def TxAt (C : Addr) (H : Hp) (p : Addr) (z : Str) (b : Nat) : Prop := ∃ dx, H p = some (.ins C dx (flTT (.str z) (.int (b : Nat))))
theorem TxAt.ex {C : Addr} {H H' : Hp} {p : Addr} {z : Str} {b : Nat} (h : TxAt C H p z b) (e : Ex H H') : TxAt C H' p z b := h.elim fun dx h => ⟨dx, e _ _ h⟩
theorem TxAt.at_upd {C : Addr} {H : Hp} {p q : Addr} {z : Str} {b : Nat} {o : HO} (h : TxAt C H p z b) (n : q ≠ p) : TxAt C (upd H q o) p z b := h.elim fun dx h => ⟨dx, by rw [upd_ne (Ne.symm n)]; exact h⟩
end Bk
set_option Elab.async false
set_option linter.all false
set_option maxRecDepth 100000
set_option maxHeartbeats 4000000
/-! Bk89: texts of trees, how they are read; wider contracts -/
namespace Bk
open PySem PySem.Spec PyProof.Rows L2
/-! ### a tree's text -/
inductive OkP : PT → Prop where
  | node {s : Str} {ps : List PT} : isName s = true → (∀ p ∈ ps, OkP p) → OkP (.node s ps)
theorem OkP.name {s : Str} {ps : List PT} (h : OkP (.node s ps)) : isName s = true := by cases h; assumption
theorem OkP.part {s : Str} {ps : List PT} (h : OkP (.node s ps)) : ∀ p ∈ ps, OkP p := by cases h; assumption
/-! ### a tree's text, gone through -/
/-! ### what the names and counts tell -/
/-! ### alike just where the same -/
end Bk
set_option Elab.async false
set_option linter.all false
set_option maxRecDepth 100000
set_option maxHeartbeats 4000000
/-! Bk90: wider contracts: trees to 3000 rows -/
namespace Bk
open PySem PySem.Spec PyProof.Rows L2
/-- what a tree's rows tell, whatever their names -/
structure TrU (T : PT) (c : Tr) : Prop where
  pos : 0 < c.length
  few : c.length ≤ 3000
  idx : TrIdx c
  top : trA c (c.length - 1) = T
  name : ∀ r ∈ c, TextOk r.1
theorem TrU.plain {T : PT} {c : Tr} (h : TrU T c) : TrU T (plainF c) ∧ plainF c = plT T := by
  have pe := plain_end h.idx h.pos
  have l := pe.le
  have f := h.few
  refine ⟨⟨pe.pos, by omega, pe.idx, (plain_top h.idx h.pos).trans h.top, plain_names h.idx h.pos h.name⟩, ?_⟩
  rw [plainF_eq, h.top]
theorem TrU.row {nm : Str} {ps : List PT} {c : Tr} (h : TrU (.node nm ps) c) : (rowAt c (c.length - 1)).1 = nm ∧ (rowAt c (c.length - 1)).2.map (fun n => trA c n.toNat) = ps ∧ ps.length ≤ 2 := by
  have p := h.pos
  have er := List.getElem?_eq_getElem (l := c) (i := c.length - 1) (by omega)
  have e := h.top
  rw [trA_at h.idx er] at e
  injection e with e1 e2
  have r := rowAt_eq er
  rw [r]
  exact ⟨e1, e2, by rw [← e2, List.length_map]; exact (h.idx _ _ er).1⟩
theorem TrU.part {nm : Str} {ps : List PT} {c : Tr} (h : TrU (.node nm ps) c) : ∀ p ∈ ps, TrU p (plT p) ∧ (plT p).length ≤ c.length := fun p hp => by
  obtain ⟨_, e2, _⟩ := h.row
  rw [← e2] at hp
  obtain ⟨n, hn, rfl⟩ := List.mem_map.1 hp
  have q := h.pos
  have er := List.getElem?_eq_getElem (l := c) (i := c.length - 1) (by omega)
  rw [rowAt_eq er] at hn
  have ix := (h.idx _ _ er).2 n hn
  have l : (c.take (n.toNat + 1)).length = n.toNat + 1 := by rw [List.length_take]; omega
  have f := h.few
  have t : TrU (trA c n.toNat) (c.take (n.toNat + 1)) := ⟨by omega, by omega, h.idx.take _, by rw [l, Nat.add_sub_cancel]; exact trA_take (by omega) (Nat.lt_succ_self _), fun r hr => h.name r (List.mem_of_mem_take hr)⟩
  have z := t.plain
  have pl := (plain_end t.idx t.pos).le
  rw [z.2] at pl
  rw [z.2] at z
  exact ⟨z.1, by omega⟩
theorem TrU.parts {nm : Str} {ps : List PT} {c : Tr} (h : TrU (.node nm ps) c) : (∀ t ∈ ps.map plT, 0 < t.length ∧ t.length ≤ 3000 ∧ TrIdx t) ∧ ((ps.map plT).map fun t => trA t (t.length - 1)) = ps := by
  have k := h.part
  refine ⟨fun t ht => ?_, ?_⟩
  · obtain ⟨p, hp, rfl⟩ := List.mem_map.1 ht
    have z := (k p hp).1
    exact ⟨z.pos, z.few, z.idx⟩
  · rw [List.map_map]
    have : (ps.map ((fun t => trA t (t.length - 1)) ∘ plT)) = ps.map id := List.map_congr_left fun p hp => (k p hp).1.top
    rw [this, List.map_id]
theorem TrU.size {T : PT} {c : Tr} (h : TrU T c) : (treeD c).size ≤ 15001 := by
  have := tree_size h.idx
  have := h.few
  omega
/-! ### contracts -/
end Bk
set_option Elab.async false
set_option linter.all false
set_option maxRecDepth 100000
set_option maxHeartbeats 4000000
/-! Bk91: runs of letters -/
namespace Bk
open PySem PySem.Spec PyProof.Rows L2
/-! ### what stands open -/
def OpsAt (p F O : Addr) (H0 H : Hp) : Ops → List Addr → Prop
  | [], [] => True
  | (n, k) :: ops, a :: as => (H a = some (.lst [.str n, .int (k : Nat)]) ∧ a ≠ p ∧ a ≠ F ∧ a ≠ O ∧ H0 a = none ∧ a ∉ as) ∧ OpsAt p F O H0 H ops as
  | _, _ => False
section
variable {p F O : Addr} {H0 H H' : Hp}
theorem OpsAt.keep : ∀ {ops : Ops} {as : List Addr}, OpsAt p F O H0 H ops as → (∀ a, a ∈ as → a ≠ p → a ≠ F → a ≠ O → ∀ l, H a = some (.lst l) → H' a = some (.lst l)) → OpsAt p F O H0 H' ops as
  | [], [], h, _ => h
  | (n, k) :: ops, a :: as, h, q => ⟨⟨q a List.mem_cons_self h.1.2.1 h.1.2.2.1 h.1.2.2.2.1 _ h.1.1, h.1.2⟩, OpsAt.keep h.2 fun b hb => q b (List.mem_cons_of_mem _ hb)⟩
  | [], _ :: _, h, _ => h.elim
  | _ :: _, [], h, _ => h.elim
theorem OpsAt.len : ∀ {ops : Ops} {as : List Addr}, OpsAt p F O H0 H ops as → as.length = ops.length
  | [], [], h => rfl
  | (n, k) :: ops, a :: as, h => congrArg Nat.succ (OpsAt.len h.2)
  | [], _ :: _, h => h.elim
  | _ :: _, [], h => h.elim
theorem OpsAt.but {ops : Ops} {as : List Addr} (h : OpsAt p F O H0 H ops as) (b : But p H H') : OpsAt p F O H0 H' ops as := h.keep fun a _ n _ _ l e => b a _ n e
theorem OpsAt.ex {ops : Ops} {as : List Addr} (h : OpsAt p F O H0 H ops as) (b : Ex H H') : OpsAt p F O H0 H' ops as := h.keep fun a _ _ _ _ l e => b a _ e
theorem OpsAt.mem : ∀ {ops : Ops} {as : List Addr}, OpsAt p F O H0 H ops as → ∀ a ∈ as, ∃ l, H a = some (.lst l)
  | [], [], h, a, ha => nomatch ha
  | (n, k) :: ops, b :: as, h, a, ha => by
    rcases List.mem_cons.1 ha with rfl | ha
    · exact ⟨_, h.1.1⟩
    · exact OpsAt.mem h.2 a ha
  | [], _ :: _, h, _, _ => h.elim
  | _ :: _, [], h, _, _ => h.elim
theorem OpsAt.push {ops : Ops} {as : List Addr} {a : Addr} {n : Str} {k : Nat} (h : OpsAt p F O H0 H ops as) (ha : H a = none) (h1 : a ≠ p) (h2 : a ≠ F) (h3 : a ≠ O) (h4 : H0 a = none) : OpsAt p F O H0 (upd H a (.lst [.str n, .int (k : Nat)])) ((n, k) :: ops) (a :: as) :=
  ⟨⟨upd_same, h1, h2, h3, h4, fun z => by obtain ⟨l, e⟩ := h.mem a z; rw [ha] at e; cases e⟩, h.ex (Ex.new ha)⟩
end
theorem TxAt.tk {C : Addr} {H H' : Hp} {p : Addr} {z : Str} {b : Nat} (h : TxAt C H p z b) (e : But p H H') : Tk H H' := fun a xs ha => e a _ (fun y => by obtain ⟨dx, hh⟩ := h; rw [y, hh] at ha; cases ha) ha
theorem TxAt.ne {C : Addr} {H : Hp} {p q : Addr} {z : Str} {b : Nat} (h : TxAt C H p z b) (e : H q = none) : q ≠ p := fun y => by obtain ⟨dx, hh⟩ := h; rw [y, hh] at e; cases e
end Bk
set_option Elab.async false
set_option linter.all false
set_option maxRecDepth 100000
set_option maxHeartbeats 4000000
/-! Bk92: k13: letters, trees that are told in all forms -/
namespace Bk
open PySem PySem.Spec PyProof.Rows L2
/-! ### trees of a wood stand -/
end Bk
set_option Elab.async false
set_option linter.all false
set_option maxRecDepth 100000
set_option maxHeartbeats 4000000
/-! Bk93: k13: chains in a wood of two makers -/
namespace Bk
open PySem PySem.Spec PyProof.Rows L2
end Bk
set_option Elab.async false
set_option linter.all false
set_option maxRecDepth 100000
set_option maxHeartbeats 4000000
/-! Bk94: k11: the law's own parser; texts that do not close -/
namespace Bk
open PySem PySem.Spec PyProof.Rows L2
/-! ### runs -/
/-! ### what a turn's state tells -/
/-! ### one sign cut out -/
/-! ### what is spelled closes, and a name stands behind each opening -/
/-! ### the text of a chain -/
end Bk
set_option Elab.async false
set_option linter.all false
set_option maxRecDepth 100000
set_option maxHeartbeats 4000000
/-! Bk95: contracts of k11 -/
namespace Bk
open PySem PySem.Spec PyProof.Rows L2
/-! ### texts put together -/
def Chr (s : Str) : Prop := ∀ c ∈ s.cps.toList, c < 0x110000
theorem Chr.app {s t : Str} (h : Chr s) (g : Chr t) : Chr (s ++ t) := fun c hc => by
  rw [app_list] at hc
  exact (List.mem_append.1 hc).elim (h c) (g c)
/-! ### contracts -/
end Bk
set_option Elab.async false
set_option linter.all false
set_option maxRecDepth 100000
set_option maxHeartbeats 4000000
/-! Bk96: great ints: str, f-strings, int(text) up to 4,300 figures -/
namespace Bk
open PySem PySem.Spec PyProof.Rows L2
/-! ### rules -/
/-- what the written part says: the limit on figures is the usual one -/
structure Lim (K : PySem.W.Frag) : Prop where
  ok : PySem.W.nsOkIn K cStatics = true
  no : PySem.W.nsIn K cStatics "sys.int_max_str_digits" = some none
theorem Lim.none {K : PySem.W.Frag} {h : Heap} (L : Lim K) (X : K.In h) : h.NoDigits :=
  ⟨_, .of_isNs (PySem.W.isNs_of_in X L.ok), PySem.W.nsMap_none_of_in X L.ok L.no⟩
end Bk
set_option Elab.async false
set_option linter.all false
set_option maxRecDepth 100000
set_option maxHeartbeats 4000000
/-! Bk97: k02: fractions' texts by own reading -/
namespace Bk
open PySem PySem.Spec PyProof.Rows L2
/-! ### figures written back -/
/-! ### parted again -/
/-! ### contracts -/
end Bk
set_option Elab.async false
set_option linter.all false
set_option maxRecDepth 100000
set_option maxHeartbeats 4000000
/-! Bk98: own errors that stay as values: fields stored over any base -/
namespace Bk
open PySem PySem.Spec PyProof.Rows L2
section
open PySem.Builtin Builtin.ObjectAttr PySem.Calls
variable {prog : Program} {w : World} {A : Around} {E : Value → Shared → Prop} {R : Result → Shared → Prop} {hp : Heap} {g : Array GenState} {d : Drawn} {t : Nat} {os : OsState}
/-- what is asked of a class's mro so that its instances' fields are stored as usual -/
structure Stores (l : List Value) : Prop where
  goes : ∀ self : Value, refuseLoop self "__setattr__" l = pure ()
  base : l.contains (.type "object") = true
theorem Stores.ne {l : List Value} (h : Stores l) : l.isEmpty = false := by
  cases l with
  | nil => exact absurd h.base (by decide)
  | cons _ _ => rfl
theorem Stores.ref {l : List Value} (h : Stores l) (C : Addr) : Stores (.ref C :: l) :=
  ⟨fun self => by rw [refuseLoop_ref]; exact h.goes self, by rw [List.contains_cons, h.base, Bool.or_true]⟩
end
end Bk
set_option Elab.async false
set_option linter.all false
set_option maxRecDepth 100000
set_option maxHeartbeats 4000000
/-! Bk99: set(text) of any text, and how many signs it has. -/
namespace Sg
open PySem PySem.Spec PyProof.Rows L2
/-- the signs l as keys -/
def mem (l : List Nat) : Key → Bool := fun k => l.any fun c => decide (k = .inr ⟨#[c]⟩)
/-- how many of the second signs are new to the first and to those ahead of them -/
def new : List Nat → List Nat → Nat
  | _, [] => 0
  | l, c :: r => (if c ∈ l then 0 else 1) + new (c :: l) r
theorem mem_one (l : List Nat) (c : Nat) : mem l (.inr ⟨#[c]⟩) = decide (c ∈ l) := by
  induction l with
  | nil => rfl
  | cons d r ih =>
    have e : mem (d :: r) (.inr ⟨#[c]⟩) = (decide ((.inr ⟨#[c]⟩ : Key) = .inr ⟨#[d]⟩) || mem r (.inr ⟨#[c]⟩)) := rfl
    rw [e, ih]
    by_cases q : c = d
    · subst q; simp
    · have q2 : ¬ ((.inr ⟨#[c]⟩ : Key) = .inr ⟨#[d]⟩) := fun z => q (by injection z with z; injection z with z; simpa using z)
      simp [q, q2]
section
variable {prog : Program} {w : World} {A : Around} {R : Result → Shared → Prop} {it : Addr} {fp wr : List Addr} {x : Str} {St : Nat → Heap → Prop} {p : Addr}
abbrev SO (prog : Program) (w : World) (h : Heap) (p : Addr) (S : Key → Bool) (n : Nat) : Prop := h.SetOf (mixKind prog w) p S n
theorem loop (W : Walks prog w A.in1 it fp wr x.cps.size (SignAt x) St) (hp : p ∉ fp) (hz : x.cps.size + 1 < scanBound) :
    ∀ (m i : Nat) (l : List Nat) (n : Nat) (s : Shared), x.cps.size - i = m → i ≤ x.cps.size → n ≤ i → St i s.heap → SO prog w s.heap p (mem l) n →
      (∀ g tk S, (∀ b o, b ≠ p → b ∉ wr → s.heap.get? b = some o → g.get? b = some o) → SO prog w g p S (n + new l (x.cps.toList.drop i)) → R (.ok (.ret .none)) { s with heap := g, toks := tk }) →
      codeAny (model prog w) A (.builtin "set.update.loop" ⟨[.ref p, .ref it], []⟩) R s
  | 0, i, l, n, s, hm, hi, hn, hst, hS, hR => by
    have pw : p ∉ wr := fun z => hp (W.sub _ z)
    have e : i = x.cps.size := by omega
    refine codeAny_builtin F.entry_set_update_loop ?_
    rw [Around.under_plainId F.plain_set_update_loop _]
    refine wpAny_bind (m := pyNext (.ref it)) (W.done s _ _ (e ▸ hst) fun g tk k => ?_)
    refine wpAny_pure (hR g tk (mem l) (fun b o _ hb ho => k b o hb ho) ?_)
    rw [List.drop_of_length_le (by rw [e, Array.length_toList]; exact Nat.le_refl _)]
    exact setOf_at hS fun o ho => k p o pw ho
  | m + 1, i, l, n, s, hm, hi, hn, hst, hS, hR => by
    have pw : p ∉ wr := fun z => hp (W.sub _ z)
    have lt : i < x.cps.size := by omega
    refine codeAny_builtin F.entry_set_update_loop ?_
    rw [Around.under_plainId F.plain_set_update_loop _]
    refine wpAny_bind (m := pyNext (.ref it)) (W.item i s _ _ lt hst fun v g tk hP hst2 k => ?_)
    obtain ⟨c, t, hc, rfl⟩ := hP
    have hd : x.cps.toList.drop i = c :: x.cps.toList.drop (i + 1) := Fz.drop_at hc
    have hS2 : SO prog w g p (mem l) n := setOf_at hS fun o ho => k p o pw ho
    refine wpAny_bind (m := holding _ (setAdd p _)) (wpAny_holding ?_)
    unfold setAdd
    have hk : (mixKind prog w).is (.inr ⟨#[c]⟩) (.str ⟨#[c]⟩ t) = true := mixKind_str prog w _ t
    refine wpAny_holding (wpAny_bind ((mixKind prog w).pyHash hk ?_))
    refine wpAny_setAddHashed_of (s := { s with heap := g, toks := tk + 1 }) hk rfl hS2 (by omega) fun g2 sb hS3 => ?_
    have hS4 : SO prog w g2 p (mem (c :: l)) (n + if c ∈ l then 0 else 1) := by
      have e1 : (fun q : Key => mem l q || decide (q = .inr ⟨#[c]⟩)) = mem (c :: l) := funext fun q => Bool.or_comm _ _
      have e2 : (if mem l (.inr ⟨#[c]⟩) = true then n else n + 1) = n + if c ∈ l then 0 else 1 := by
        rw [mem_one]
        by_cases q : c ∈ l <;> simp [q]
      rw [e1, e2] at hS3
      exact hS3
    refine wpAny_pure ⟨plainId_quiet F.plain_set_update_loop _, loop W hp hz m (i + 1) (c :: l) _ _ (by omega) lt (by split <;> omega) (W.frame _ _ _ hst2 fun b hb o ho => ?_) hS4 fun g3 tk3 S3 k3 hS5 => ?_⟩
    · exact (sb.2 b fun z => hp (z ▸ hb)).trans ho
    · refine hR g3 tk3 S3 (fun b o h1 h2 ho => k3 b o h1 h2 ((sb.2 b h1).trans (k b o h2 ho))) ?_
      rw [hd]
      show SO prog w g3 p S3 (n + ((if c ∈ l then 0 else 1) + new (c :: l) (x.cps.toList.drop (i + 1))))
      rw [← Nat.add_assoc]
      exact hS5
end
section
variable {prog : Program} {w : World} {A : Around} {E : Value → Shared → Prop} {s : Shared} {x : Str} {t : Tok} {Q : Value → Shared → Prop}
/-- what set(text) leaves -/
def Left (prog : Program) (w : World) (x : Str) (s s2 : Shared) : Prop :=
  ∃ g tk S, s2 = { s with heap := g, toks := tk } ∧ SO prog w g s.heap.objs.size S (new [] x.cps.toList) ∧ ∀ b o, s.heap.get? b = some o → g.get? b = some o
abbrev blank (led : Bool) : Obj := { cls := .type "set", dict := none, data := .set #[] 0 (.fresh 0 0 led) }
theorem init {G : Fin → Shared → Prop} (hh : A.handled = none) (hz : x.cps.size + 1 < scanBound) (led : Bool) (h : ∀ s2, Left prog w x s s2 → G (.done (.ret .none)) s2) :
    wpAny (model prog w) A (Builtin.«set.__init__» ⟨[.ref s.heap.objs.size, .str x t], []⟩) G E { s with heap := s.heap.push (blank led) } := by
  have f1 := PySem.F.sub_str_set
  have f2 := PySem.F.sub_str_frozenset
  have f3 : (Value.type "str" == Value.type "dict") = false := by decide
  have f4 : (s.heap.push (blank led)).get? s.heap.objs.size = some (blank led) := Heap.get?_push_size _ rfl
  unfold Builtin.«set.__init__» Builtin.Frozenset.updateFrom noKeywords
  generalize hJ : pyIter = J
  wp_walk
  subst hJ
  refine wpAny_pyIter_str fun o St hW hst => wpAny_bind (wpAny_runValue ?_)
  have np : s.heap.objs.size ∉ [(s.heap.push (blank led)).objs.size] := by
    rw [Heap.size_push, List.mem_singleton]
    omega
  have h0 : SO prog w ((s.heap.push (blank led)).push o) s.heap.objs.size (mem []) 0 := by
    have f5 := Heap.get?_push_of_some o f4
    exact ⟨_, #[], 0, _, f5, ⟨rfl, rfl, rfl⟩, rfl, fun e he => absurd he (by simp), fun q => by simp [mem], by decide, by rfl, rfl⟩
  refine loop (hW _ (by simp [hh])) np hz x.cps.size 0 [] 0 _ rfl (Nat.zero_le _) (Nat.le_refl _) hst h0 fun g tk S k hS => ?_
  refine wpAny_pure (wpAny_pure (h _ ⟨g, tk, S, rfl, ?_, fun b o1 ho => ?_⟩))
  · rw [Nat.zero_add] at hS
    exact hS
  · have lt := Heap.lt_size ho
    have l2 : b < (s.heap.push (blank led)).objs.size := by
      rw [Heap.size_push]
      exact Nat.lt_succ_of_lt lt
    exact k b o1 (Nat.ne_of_lt lt) (fun z => Nat.ne_of_lt l2 (List.mem_singleton.mp z)) (Heap.get?_push_of_some _ (Heap.get?_push_of_some _ ho))
set_option maxHeartbeats 8000000 in
theorem call_set {Q : Value → Shared → Prop} (hh : A.handled = none) (hz : x.cps.size + 1 < scanBound) (h : ∀ s2, Left prog w x s s2 → Q (.ref s.heap.objs.size) s2) :
    wpAny (model prog w) A (call (.type "set") [.str x t]) Q E s := by
  have ⟨_, _, m0⟩ := PySem.F.called_set.mro
  have m1 := PySem.F.called_set.made
  have m2 := PySem.F.called_set.sub
  have m3 := PySem.F.called_set.notType
  have m4 := PySem.F.called_set.canCreate
  have m5 := PySem.F.typeCall_set_1 (.str x t)
  refine wpAny_call (codeAny_of_tree (show wpAny _ _ (callAny (.type "set") _) _ _ _ from wpAny_pure ⟨Code.quiet_builtin _ (by decide +kernel), codeAny_builtin PySem.F.entry_type_call ?_⟩))
  rw [Around.under_plain (weight_type_call_type "set" [.str x t] []) rfl]
  repeat (any_goals (first | assumption | wp_step))
  refine codeAny_mono (code_set_new_1 (.str x t) (E := E) (Q₁ := fun v s1 => ∃ led : Bool, v = .ref s.heap.objs.size ∧ s1 = { s with heap := s.heap.push (blank led) }) fun led => ⟨led, rfl, rfl⟩) fun r s1 hr => ?_
  match r, hr with
  | .error _, hr => exact hr
  | .ok .next, hr => exact hr.elim
  | .ok .brk, hr => exact hr.elim
  | .ok .cont, hr => exact hr.elim
  | .ok (.ret v), hr =>
    obtain ⟨led, rfl, rfl⟩ := hr
    have hT : Shared.TypeIs { s with heap := s.heap.push (blank led) } (.ref s.heap.objs.size) "set" := ⟨_, Heap.get?_push_size _ rfl, rfl⟩
    have n1 := PySem.F.called_set.init.lookup
    have n2 := PySem.F.called_set.init.bind (.ref s.heap.objs.size)
    repeat (any_goals (first | assumption | wp_step))
    refine codeAny_mono (codeAny_call_builtin (R := wants (fun r s2 => r = .none ∧ Left prog w x s s2) E) PySem.F.called_set.init.plain PySem.F.entry_set_init (check_set_init_1 hT ?_)) fun r2 s2 hr2 => ?_
    · exact init (by simp [hh]) hz led fun s2 L => ⟨rfl, L⟩
    · match r2, hr2 with
      | .error _, hr2 => exact hr2
      | .ok .next, hr2 => exact hr2.elim
      | .ok .brk, hr2 => exact hr2.elim
      | .ok .cont, hr2 => exact hr2.elim
      | .ok (.ret v2), hr2 =>
        obtain ⟨rfl, L⟩ := hr2
        repeat (any_goals (first | assumption | wp_step))
        exact h s2 L
end
end Sg
namespace L2
open PySem PySem.Spec PyProof.Rows
section
variable {X : Cx}
/-- len(set(a)), a text -/
def tLenSgn (ta : TE) : TE := fun σ H Q => ta σ H fun x H1 => ∃ y, x = .str y ∧ y.cps.size + 1 < scanBound ∧ Sg.new [] y.cps.toList < 1000000 ∧ Q (.int (Sg.new [] y.cps.toList)) H1
theorem pe_lenSgn {a : Expr} {ta : TE} {p p2 q pos : Pos} (hc : X.calm = true) (g1 : Gl X "len") (m1 : X.mg "len" = none) (g2 : Gl X "set") (m2 : X.mg "set" = none) (ha : PE X a ta)
    (na : starEach [a] X.env = (false, eval a X.env) :: starEach [] X.env := by rfl) : PE X (.Call (.Name "len" p) [.Call (.Name "set" p2) [a] [] q] [] pos) (tLenSgn ta) := by
  refine ⟨fun pins s σ H Q I h => Call_ (ld_blt I g1 m1 boot_len (PyProof.Rows.callWith_builtin1 (PyProof.Rows.args_cons (Call_ (ld_blt I g2 m2 boot_set (PyProof.Rows.callWith_type1 (PyProof.Rows.args_cons ?_ na) na rfl))) rfl) rfl rfl))⟩
  refine thn (ha.run pins s σ H _ I h) fun v s1 ⟨x, H1, I1, r1, y, e, hz, hs, q1⟩ => PyProof.Rows.args_nil ?_
  subst e
  obtain ⟨t, rfl⟩ := r1
  refine Sg.call_set (I1.ok.hd hc) hz fun s2 ⟨g, tk, S, e2, hS, k⟩ => PyProof.Rows.args_nil ?_
  subst e2
  obtain ⟨o, es, ep, tb, ho, hex, hd, _, _, _, hf, hn⟩ := hS
  have I2 : Inv X pins σ H1 { s1 with heap := g, toks := tk } := I1.kept k
  exact call_len_set ho hex hd hf (by rw [hn]; omega) ⟨.int (Sg.new [] y.cps.toList), H1, I2.tok _, ⟨_, by rw [hn]⟩, q1⟩
end
end L2
set_option Elab.async false
set_option linter.all false
set_option maxRecDepth 100000
set_option maxHeartbeats 4000000
/-! Bk100: what a printer is refused for. -/
namespace Bk
open PySem PySem.Spec PyProof.Rows L2
/-! ### signs, unlike -/
theorem new_le : ∀ (l r : List Nat), Sg.new l r ≤ r.length
  | _, [] => Nat.le_refl _
  | l, c :: r => by
    have := new_le (c :: l) r
    show (if c ∈ l then 0 else 1) + Sg.new (c :: l) r ≤ r.length + 1
    split <;> omega
theorem new_all : ∀ (l r : List Nat), Sg.new l r = r.length ↔ r.Nodup ∧ ∀ c ∈ r, c ∉ l
  | _, [] => ⟨fun _ => ⟨List.nodup_nil, fun c h => nomatch h⟩, fun _ => rfl⟩
  | l, c :: r => by
    have ih := new_all (c :: l) r
    have le := new_le (c :: l) r
    show (if c ∈ l then 0 else 1) + Sg.new (c :: l) r = r.length + 1 ↔ _
    constructor
    · intro h
      by_cases q : c ∈ l
      · rw [if_pos q] at h
        omega
      rw [if_neg q] at h
      obtain ⟨h1, h2⟩ := ih.1 (by omega)
      refine ⟨List.nodup_cons.2 ⟨fun z => (h2 c z) List.mem_cons_self, h1⟩, fun d hd => ?_⟩
      rcases List.mem_cons.1 hd with rfl | hd
      · exact q
      · exact fun z => h2 d hd (List.mem_cons_of_mem _ z)
    · rintro ⟨h1, h2⟩
      obtain ⟨h3, h4⟩ := List.nodup_cons.1 h1
      rw [if_neg (h2 c List.mem_cons_self), ih.2 ⟨h4, fun d hd z => ?_⟩]
      · omega
      · rcases List.mem_cons.1 z with rfl | z
        · exact h3 hd
        · exact h2 d (List.mem_cons_of_mem _ hd) z
/-! ### the law in plain words -/
/-- one to nine unlike signs from ! to ~ but the percent sign -/
def ltOk (s : Str) : Bool := decide (1 ≤ s.length ∧ s.length ≤ 9) && (decide (s.cps.toList.Nodup) && s.cps.toList.all fun c => decide (33 ≤ c ∧ c ≤ 126 ∧ c ≠ 37))
theorem ltOk_iff {s : Str} : ltOk s = true ↔ LtOk s := by
  unfold ltOk
  rw [Bool.and_eq_true, Bool.and_eq_true, decide_eq_true_eq, decide_eq_true_eq, List.all_eq_true]
  exact ⟨fun ⟨a, b, c⟩ => ⟨a.1, a.2, b, fun d hd => of_decide_eq_true (c d hd)⟩, fun h => ⟨⟨h.pos, h.most⟩, h.nd, fun d hd => decide_eq_true (h.low d hd)⟩⟩
def ownP (cs : List Int) (w : Wd) (e : Nat × Mk) : List Int := (dueOf w e).map (cntAt cs)
def txIn (ls s : Str) : Bool := decide (s ≠ "") && s.cps.toList.all fun c => decide (c ∈ ls.cps.toList)
def dueIt (ls : Str) (own : List Int) (seen : List (Int × Int)) : Itm → Option Str
  | .inl s => if txIn ls s = true then none else some "letters"
  | .inr b => if 0 ≤ b.1 ∧ b.1 < (own.length : Nat) then
      if 0 ≤ b.2 ∧ b.2 < cntAt own b.1 then if b ∈ seen then some "twice" else none
      else some "box"
    else some "part"
def bxs : Itm → List (Int × Int)
  | .inl _ => []
  | .inr b => [b]
def dueIts (ls : Str) (own : List Int) : List (Int × Int) → List Itm → Option Str
  | _, [] => none
  | seen, i :: r => (dueIt ls own seen i).or (dueIts ls own (seen ++ bxs i) r)
def dueRp (ls : Str) (cs : List Int) (w : Wd) (e : Nat × Mk) (x : List (List Itm)) : Option Str :=
  if (x.length : Int) = cntAt cs e.1 then dueIts ls (ownP cs w e) [] x.flatten else some "rows"
def dueRps (ls : Str) (cs : List Int) (w : Wd) : List ((Nat × Mk) × List (List Itm)) → Option (Str × Str)
  | [] => none
  | x :: xs => ((dueRp ls cs w x.1 x.2).map fun s => (s, x.1.2.1)).or (dueRps ls cs w xs)
def cnts2 (w : Wd) (cs : List Int) : Bool := decide (cs.length = w.length) && cs.all fun c => decide (0 ≤ c ∧ c ≤ 2)
def duePr (w : Wd) (p : Prn) : Option (Str × Str) :=
  if ltOk p.1 = true then
    if cnts2 w p.2.1 = true then
      if p.2.2.length = (tabFrom 0 w).length then dueRps p.1 p.2.1 w ((tabFrom 0 w).zip p.2.2) else some ("rules", "")
    else some ("counts", "")
  else some ("letters", "")
/-! ### bounds -/
def ItB : Itm → Prop
  | .inl s => TextOk s
  | .inr _ => True
structure RpB (x : List (List Itm)) : Prop where
  rows : x.length ≤ 1000
  row : ∀ r ∈ x, r.length ≤ 1000
  all : x.flatten.length ≤ 1000
  item : ∀ r ∈ x, ∀ i ∈ r, ItB i
structure PrnB (p : Prn) : Prop where
  lets : p.1.length ≤ 1000
  counts : p.2.1.length ≤ 1000
  rules : p.2.2.length ≤ 1000
  rule : ∀ x ∈ p.2.2, RpB x
/-! ### contracts -/
def pkey (b : Int × Int) : List L2.Key := [.inl b.1, .inl b.2]
theorem pkey_inj {a b : Int × Int} (h : pkey a = pkey b) : a = b := by
  unfold pkey at h
  injection h with h1 h
  injection h with h2 _
  injection h1 with h1
  injection h2 with h2
  exact Prod.ext h1 h2
/-- the dict's keys are the boxes seen -/
def seenK (seen : List (Int × Int)) : List (List L2.Key × V) := seen.map fun b => (pkey b, V.bl true)
theorem seen_val : ∀ (seen : List (Int × Int)) (b : Int × Int), (valV (seenK seen) (pkey b)).isSome = decide (b ∈ seen)
  | [], b => rfl
  | a :: seen, b => by
    have ih := seen_val seen b
    by_cases q : a = b
    · subst q
      have e : valV (seenK (a :: seen)) (pkey a) = some (V.bl true) := valV_pos (p := (pkey a, V.bl true)) rfl
      rw [e]
      simp
    · have e : valV (seenK (a :: seen)) (pkey b) = valV (seenK seen) (pkey b) := valV_neg (p := (pkey a, V.bl true)) fun z => q (pkey_inj z)
      rw [e, ih]
      have q2 : ¬ b = a := fun z => q z.symm
      simp [q2]
def spIsLets : Sp := fun vs H Q _ => ∃ s : Str, vs = [.str s] ∧ s.length ≤ 1000 ∧ ∀ H', Ex H H' → Q (.bl (ltOk s)) H'
def spLookIt : Sp := fun vs H Q _ => ∃ (v : V) (i : Itm) (ls : Str) (o d : Addr) (own : List Int) (seen : List (Int × Int)), vs = [v, .str ls, .ref o, .ref d] ∧ Rep H (itD i) v ∧ ItB i ∧ ls.length ≤ 1000 ∧ H o = some (.lst (own.map V.int)) ∧ own.length ≤ 1000 ∧
  H d = some (.dT (seenK seen)) ∧ seen.length ≤ 1000 ∧ (∀ x, dueIt ls own seen i = some x → ∀ H', Ex H H' → Q (.str x) H') ∧
  (dueIt ls own seen i = none → ∀ H', But d H H' → H' d = some (.dT (seenK (seen ++ bxs i))) → Q .non H')
def spLookPr (C : Addr) : Sp := fun vs H Q E => ∃ (w : Wd) (p : Prn) (wv pv : V), vs = [wv, pv] ∧ Rep H (woodD w) wv ∧ WoodOk w ∧ Rep H (prD p) pv ∧ PrnB p ∧ ToldR C H (duePr w p) (Q (.bl true)) E
def spPrDue : Sp := fun vs H Q _ => ∃ (w : Wd) (p : Prn) (wv pv : V), vs = [wv, pv] ∧ Rep H (woodD w) wv ∧ WoodOk w ∧ Rep H (prD p) pv ∧ PrnB p ∧ (∀ c ∈ p.1.cps.toList, c ∈ signL ∨ c = 32 ∨ c = 10) ∧ ∀ v H', Ex H H' → Rep H' (dueD2 (duePr w p)) v → Q v H'
end Bk
set_option Elab.async false
set_option linter.all false
set_option maxRecDepth 100000
set_option maxHeartbeats 4000000
/-! Bk101: the law's letters, printers spoilt. -/
namespace Bk
open PySem PySem.Spec PyProof.Rows L2
/-! ### text.count of one sign -/
theorem count_one {x : Str} {s : Nat} (hx : 1 ≤ x.length) (hs : s < 256) : Txt.count x ⟨#[s]⟩ = ((x.cps.toList.count s : Nat) : Int) := by
  have z := split_count (x := x) (y := ⟨#[s]⟩) rfl hs
  have k : decide (Builtin.Str.strKind x < Builtin.Str.strKind ⟨#[s]⟩) = false := decide_eq_false (TL.kind_ok (y := ⟨#[s]⟩) (by simp [hs]))
  unfold Txt.split at z
  rw [k, decide_eq_false (by show ¬ x.length < 1; omega)] at z
  unfold Txt.count
  cases e : (Builtin.Str.occurrences x ⟨#[s]⟩ 0 x.length (x.length + 1)) with
  | nil =>
    rw [e] at z
    have z2 : 1 = x.cps.toList.count s + 1 := z
    have z3 : x.cps.toList.count s = 0 := by omega
    rw [z3]
    rfl
  | cons a l =>
    rw [e] at z
    have z2 : (Builtin.Str.partsBetween x (a :: l) 1).length = x.cps.toList.count s + 1 := z
    rw [length_partsBetween] at z2
    have z3 : (a :: l).length = x.cps.toList.count s := by omega
    rw [z3]
/-- a sign of the letters that is amiss -/
def badL (s : Str) (c : Nat) : Bool := decide (c = 32 ∨ c = 10) || decide (1 < s.cps.toList.count c)
theorem ltOk_law {s : Str} (h : ∀ c ∈ s.cps.toList, c ∈ signL ∨ c = 32 ∨ c = 10) : ltOk s = (decide (1 ≤ s.length ∧ s.length ≤ 9) && s.cps.toList.all fun c => !badL s c) := by
  unfold ltOk
  congr 1
  rw [Bool.eq_iff_iff, Bool.and_eq_true, decide_eq_true_eq, List.all_eq_true, List.all_eq_true]
  constructor
  · rintro ⟨nd, al⟩ c hc
    have a := of_decide_eq_true (al c hc)
    have b := List.nodup_iff_count.1 nd c
    unfold badL
    rw [decide_eq_false (by omega), decide_eq_false (by omega)]
    rfl
  · intro al
    have one : ∀ c ∈ s.cps.toList, ¬ (c = 32 ∨ c = 10) ∧ ¬ 1 < s.cps.toList.count c := fun c hc => by
      have a := al c hc
      unfold badL at a
      rw [Bool.not_eq_true', Bool.or_eq_false_iff] at a
      exact ⟨of_decide_eq_false a.1, of_decide_eq_false a.2⟩
    refine ⟨List.nodup_iff_count.2 fun c => ?_, fun c hc => decide_eq_true ?_⟩
    · by_cases q : c ∈ s.cps.toList
      · have := (one c q).2
        omega
      · rw [List.count_eq_zero.2 q]
        exact Nat.zero_le _
    · rcases h c hc with a | a
      · exact signL_low a
      · exact absurd a (one c hc).1
/-! ### printers drawn, then spoilt n times -/
structure LtN (n : Nat) (s : Str) : Prop where
  most : s.length ≤ 9 + 16 * n
  sign : ∀ c ∈ s.cps.toList, c ∈ signL ∨ c = 32 ∨ c = 10
  few : n ≤ 1 → 32 ∉ s.cps.toList ∨ s.length ≤ 10
  good : n = 0 → LtOk s
theorem LtOk.n0 {s : Str} (h : LtOk s) : LtN 0 s := ⟨h.most, fun c hc => .inl (by
  obtain ⟨a, b, d⟩ := h.low c hc
  exact List.mem_filter.2 ⟨List.mem_range.2 (by omega), decide_eq_true ⟨a, d⟩⟩), fun _ => .inl fun z => by have := h.low 32 z; omega, fun _ => h⟩
structure RpN (n : Nat) (x : List (List Itm)) : Prop where
  rows : x.length ≤ 2 + n
  row : ∀ r ∈ x, r.length ≤ 6 + n
  item : ∀ r ∈ x, ∀ i ∈ r, ∀ s, i = .inl s → s.length ≤ 8 ∧ ∀ c ∈ s.cps.toList, c < 0x110000
structure PrnN (n : Nat) (p : Prn) : Prop where
  lets : LtN n p.1
  counts : p.2.1.length ≤ 4 + n
  rules : p.2.2.length ≤ 12 + 2 * n
  rule : ∀ x ∈ p.2.2, RpN n x
theorem flat_le {α : Type} {k m : Nat} : ∀ {x : List (List α)}, (∀ r ∈ x, r.length ≤ m) → x.length ≤ k → x.flatten.length ≤ k * m
  | [], _, _ => Nat.zero_le _
  | r :: x, h, hk => by
    obtain ⟨j, rfl⟩ : ∃ j, k = j + 1 := ⟨k - 1, by rw [List.length_cons] at hk; omega⟩
    have a := flat_le (k := j) (fun r hr => h r (List.mem_cons_of_mem _ hr)) (by rw [List.length_cons] at hk; omega)
    have b := h r List.mem_cons_self
    rw [List.flatten_cons, List.length_append, Nat.succ_mul]
    omega
theorem PrnN.bnd {n : Nat} {p : Prn} (h : PrnN n p) (hn : n ≤ 2) : PrnB p where
  lets := by have := h.lets.most; omega
  counts := by have := h.counts; omega
  rules := by have := h.rules; omega
  rule := fun x hx => ⟨by have := (h.rule x hx).rows; omega, fun r hr => by have := (h.rule x hx).row r hr; omega, by
    have := flat_le (k := 4) (m := 8) (fun r hr => by have := (h.rule x hx).row r hr; omega) (by have := (h.rule x hx).rows; omega)
    omega, fun r hr i hi => by
    cases i with
    | inl s =>
      have z := (h.rule x hx).item r hr _ hi s rfl
      exact ⟨Nat.le_trans z.1 (by decide), z.2⟩
    | inr b => trivial⟩
end Bk
set_option Elab.async false
set_option linter.all false
set_option maxRecDepth 100000
set_option maxHeartbeats 4000000
/-! Bk102: contracts of the law about printers looked at. -/
namespace Bk
open PySem PySem.Spec PyProof.Rows L2
theorem it_eqv {a b : Itm} : PyData.eqv (itD a).pd (itD b).pd = decide (a = b) := by
  cases a with
  | inl s =>
    cases b with
    | inl t =>
      show (s == t) = _
      by_cases h : s = t
      · subst h
        simp
      · rw [decide_eq_false fun z => h (by injection z)]
        simp [h]
    | inr c => rfl
  | inr a =>
    cases b with
    | inl t => rfl
    | inr b =>
      obtain ⟨a1, a2⟩ := a
      obtain ⟨b1, b2⟩ := b
      show ((a1 == b1) && ((a2 == b2) && true)) = _
      rw [Bool.and_true]
      by_cases h : a1 = b1
      · subst h
        by_cases g : a2 = b2
        · subst g
          simp
        · rw [decide_eq_false fun z => g (by injection z with z; injection z)]
          simp [g]
      · rw [decide_eq_false fun z => h (by injection z with z; injection z)]
        simp [h]
theorem it_any (S : List Itm) (i : Itm) : ((D.pds (S.map itD)).any fun z => PyData.eqv z (itD i).pd) = S.any fun j => decide (j = i) := by
  induction S with
  | nil => rfl
  | cons a S ih =>
    show (PyData.eqv (itD a).pd (itD i).pd || ((D.pds (S.map itD)).any fun z => PyData.eqv z (itD i).pd)) = _
    rw [it_eqv, ih]
    rfl
theorem it_sig {i : Itm} (h : ItB i) : (itD i).Sig := by
  cases i with
  | inl s => exact h.2
  | inr b => exact ⟨trivial, trivial, trivial⟩
theorem it_dep1 (i : Itm) : (itD i).dep ≤ 1 := by
  cases i with
  | inl s => exact Nat.zero_le _
  | inr b => exact Nat.le_refl _
theorem g_inIt {K : PySem.W.Frag} {H : Hp} {Q : VK} {a : Addr} {uvs : List V} {S : List Itm} {i : Itm} {v : V} (ha : H a = some (.lst uvs)) (rS : Reps H (S.map itD) uvs) (ri : Rep H (itD i) v) (nS : ∀ j ∈ S, ItB j) (ni : ItB i) (q : Q (.bl (S.any fun j => decide (j = i))) H) : rInD K v (.ref a) H Q := by
  have r := Rep.lstO (ds := S.map itD) ha rS
  refine ⟨(itD i).pd, D.pds (S.map itD), Rep.dp ri, Rep.dp r, D.shaped (it_sig ni) (Nat.le_trans (it_dep1 i) (by decide)), D.shaped (d := .lst (S.map itD)) (sigs_map fun j hj => it_sig (nS j hj)) ?_, ?_⟩
  · show D.deps (S.map itD) + 1 ≤ 64
    have := deps_map (f := itD) (as := S) (k := 1) fun j _ => it_dep1 j
    omega
  · rw [it_any]
    exact q
theorem mem_bxs {S : List Itm} {b : Int × Int} : (.inr b) ∈ S ↔ b ∈ S.flatMap bxs := by
  rw [List.mem_flatMap]
  constructor
  · exact fun h => ⟨_, h, List.mem_singleton.2 rfl⟩
  · rintro ⟨i, hi, hb⟩
    cases i with
    | inl s => exact nomatch hb
    | inr c =>
      rw [List.mem_singleton.1 hb]
      exact hi
theorem any_bxs {S : List Itm} {b : Int × Int} : (S.any fun j => decide (j = .inr b)) = decide (b ∈ S.flatMap bxs) := by
  rw [Bool.eq_iff_iff, List.any_eq_true, decide_eq_true_eq, ← mem_bxs]
  exact ⟨fun ⟨j, h, e⟩ => (of_decide_eq_true e) ▸ h, fun h => ⟨_, h, decide_eq_true rfl⟩⟩
theorem g_isNstr {y : Str} {H : Hp} {Q : VK} (h : Q (.bl false) H) : uIsN (.str y) .non H Q := ⟨rfl, by rw [decide_eq_false (fun z => nomatch z)]; exact h⟩
theorem Rep.tri {H : Hp} {a : Addr} {x y z : V} {d e f : D} (h : H a = some (.tup [x, y, z])) (r : Rep H d x) (s : Rep H e y) (t : Rep H f z) : Rep H (.tup [d, e, f]) (.ref a) := Rep.tupO h (by simp only [Reps]; exact ⟨_, _, rfl, r, _, _, rfl, s, _, _, rfl, t, rfl⟩)
theorem g_inT3n {K : PySem.W.Frag} {H : Hp} {Q : VK} {p : Addr} {n : Int} (hp : H p = some (.tup [.int 0, .int 1, .int 2])) (h : Q (.bl (!decide (0 ≤ n ∧ n ≤ 2))) H) : uIn K true (.int n) (.ref p) H Q := by
  refine ⟨_, .inr (sqT hp), rfl, flat_ints [0, 1, 2], ?_⟩
  rw [show [V.int 0, .int 1, .int 2] = ([0, 1, 2] : List Int).map V.int from rfl, inV_ints]
  have e : decide (n ∈ ([0, 1, 2] : List Int)) = decide (0 ≤ n ∧ n ≤ 2) := by
    by_cases q : 0 ≤ n ∧ n ≤ 2
    · have k : n = 0 ∨ n = 1 ∨ n = 2 := by omega
      rw [decide_eq_true q]
      rcases k with rfl | rfl | rfl <;> decide
    · rw [decide_eq_false q]
      refine decide_eq_false fun z => q ?_
      simp only [List.mem_cons, List.not_mem_nil, or_false] at z
      omega
  rw [e]
  exact h
theorem g_dnewT {σ : L2.St} {H : Hp} {Q : VK} (h : ∀ p, H p = none → Q (.ref p) (upd H p (.dT []))) : tDNewT σ H Q := h
def toStr (o : Option Str) : Str := o.getD ""
def spWrongIt : Sp := fun vs H Q _ => ∃ (v : V) (i : Itm) (ls : Str) (o l : Addr) (own : List Int) (S : List Itm) (svs : List V), vs = [v, .str ls, .ref o, .ref l] ∧ Rep H (itD i) v ∧ ItB i ∧ ls.length ≤ 1000 ∧ H o = some (.lst (own.map V.int)) ∧ own.length ≤ 1000 ∧
  H l = some (.lst svs) ∧ Reps H (S.map itD) svs ∧ S.length ≤ 1000 ∧ (∀ j ∈ S, ItB j) ∧ ∀ H', Ex H H' → Q (.str (toStr (dueIt ls own (S.flatMap bxs) i))) H'
def spExch : Sp := fun vs H Q _ => ∃ (a l : Addr) (xs ys : List V) (i : Int), vs = [.ref a, .int i, .ref l] ∧ H a = some (.tup xs) ∧ H l = some (.lst ys) ∧ 0 ≤ i ∧ i ≤ (xs.length : Nat) ∧ xs.length ≤ 1000 ∧ ys.length ≤ 1000 ∧
  ∀ (p : Addr) (H' : Hp), Ex H H' → H' p = some (.tup (xs.take i.toNat ++ ys ++ xs.drop (i.toNat + 1))) → Q (.ref p) H'
def spOddLets : Sp := fun vs H Q _ => ∃ (p : Addr) (ls : Str) (n : Nat), vs = [.ref p, .str ls] ∧ Box H p ∧ LtN n ls ∧ n ≤ 1 ∧ ∀ (s : Str) (H' : Hp), LtN (n + 1) s → But p H H' → Box H' p → Q (.str s) H'
/-- an item that a spoilt printer may hold -/
def ItN (i : Itm) : Prop := ∀ s, i = .inl s → s.length ≤ 8 ∧ ∀ c ∈ s.cps.toList, c < 0x110000
def spOddIt : Sp := fun vs H Q _ => ∃ (p r o : Addr) (ls : Str) (v : V) (i : Itm) (x : List (List Itm)) (ovs : List V) (n : Nat), vs = [.ref p, .str ls, v, .ref r, .ref o] ∧ Box H p ∧ LtN n ls ∧ n ≤ 1 ∧ Rep H (itD i) v ∧ ItN i ∧ Rep H (rpD x) (.ref r) ∧ RpN n x ∧ H o = some (.lst ovs) ∧ ovs.length ≤ 2 ∧
  ∀ (v' : V) (i' : Itm) (H' : Hp), ItN i' → Rep H' (itD i') v' → Kp p H H' → Q v' H'
def spOddRows : Sp := fun vs H Q _ => ∃ (p o : Addr) (pr : Prn) (pv : V) (m : Int) (ovs : List V) (n : Nat), vs = [.ref p, pv, .int m, .ref o] ∧ Box H p ∧ Rep H (prD pr) pv ∧ PrnN n pr ∧ n ≤ 1 ∧ 0 ≤ m ∧ m < (pr.2.2.length : Nat) ∧ H o = some (.lst ovs) ∧ ovs.length ≤ 2 ∧
  ∀ (v' : V) (x : List (List Itm)) (H' : Hp), RpN (n + 1) x → Rep H' (rpD x) v' → Kp p H H' → Q v' H'
/-- what the law hears: let by, or refused with word and maker -/
def heardP : Option (Str × Str) → D
  | none => .tup [.str "let by", .bl true]
  | some r => .tup [.str "refused", .str r.1, .str r.2]
def spToldPr : Sp := fun vs H Q _ => ∃ (w : Wd) (p : Prn) (wv pv : V), vs = [wv, pv] ∧ Rep H (woodD w) wv ∧ WoodOk w ∧ Rep H (prD p) pv ∧ PrnB p ∧ ∀ v H', Ex H H' → Rep H' (heardP (duePr w p)) v → Q v H'
def spRightPr : Sp := fun vs H Q _ => ∃ (w : Wd) (p : Prn) (wv pv : V), vs = [wv, pv] ∧ Rep H (woodD w) wv ∧ WoodOk w ∧ Rep H (prD p) pv ∧ PrnB p ∧ (∀ c ∈ p.1.cps.toList, c ∈ signL ∨ c = 32 ∨ c = 10) ∧ ∀ H', Ex H H' → Q (.bl true) H'
theorem len_pos {s : Str} (h : ¬ s = "") : 1 ≤ s.length := by
  refine Nat.one_le_iff_ne_zero.2 fun z => h ?_
  obtain ⟨a⟩ := s
  have e : a = #[] := Array.eq_empty_of_size_eq_zero z
  rw [e]
  rfl
/-! the words that a printer is refused with -/
def wordsP : List Str := ["letters", "counts", "rules", "rows", "part", "box", "twice"]
theorem dueIt_word {ls : Str} {own : List Int} {seen : List (Int × Int)} {i : Itm} {x : Str} (h : dueIt ls own seen i = some x) : x ∈ wordsP := by
  unfold dueIt at h
  cases i with
  | inl s =>
    dsimp only at h
    split at h
    · cases h
    · cases h
      simp [wordsP]
  | inr b =>
    dsimp only at h
    split at h
    · split at h
      · split at h
        · cases h
          simp [wordsP]
        · cases h
      · cases h
        simp [wordsP]
    · cases h
      simp [wordsP]
theorem dueIts_word {ls : Str} {own : List Int} {x : Str} : ∀ {l : List Itm} {seen : List (Int × Int)}, dueIts ls own seen l = some x → x ∈ wordsP
  | [], _, h => nomatch h
  | i :: l, seen, h => by
    rcases or_some h with h | h
    · exact dueIt_word h
    · exact dueIts_word h
theorem dueRp_word {ls : Str} {cs : List Int} {w : Wd} {e : Nat × Mk} {r : List (List Itm)} {x : Str} (h : dueRp ls cs w e r = some x) : x ∈ wordsP := by
  unfold dueRp at h
  split at h
  · exact dueIts_word h
  · cases h
    simp [wordsP]
theorem dueRps_word {ls : Str} {cs : List Int} {w : Wd} {x : Str × Str} : ∀ {l : List ((Nat × Mk) × List (List Itm))}, dueRps ls cs w l = some x → x.1 ∈ wordsP ∧ ∃ z ∈ l, x.2 = z.1.2.1
  | [], h => nomatch h
  | y :: l, h => by
    rcases or_some h with h | h
    · obtain ⟨s, e, rfl⟩ := Option.map_eq_some_iff.1 h
      exact ⟨dueRp_word e, y, List.mem_cons_self, rfl⟩
    · obtain ⟨a, z, hz, e⟩ := dueRps_word h
      exact ⟨a, z, List.mem_cons_of_mem _ hz, e⟩
theorem duePr_word {w : Wd} (ok : WoodOk w) {p : Prn} {x : Str × Str} (h : duePr w p = some x) : x.1 ∈ wordsP ∧ (x.2 = "" ∨ isName x.2 = true) := by
  unfold duePr at h
  split at h
  · split at h
    · split at h
      · obtain ⟨a, z, hz, e2⟩ := dueRps_word h
        obtain ⟨i, k, hk, hm2, _⟩ := tab_of (List.of_mem_zip (show (z.1, z.2) ∈ _ from hz)).1
        exact ⟨a, .inr (by rw [e2]; exact (ok.mkr k (List.mem_of_getElem? hk) _ hm2).1)⟩
      · cases h
        exact ⟨by simp [wordsP], .inl rfl⟩
    · cases h
      exact ⟨by simp [wordsP], .inl rfl⟩
  · cases h
    exact ⟨by simp [wordsP], .inl rfl⟩
theorem heard_sig {w : Wd} (ok : WoodOk w) (p : Prn) : (heardP (duePr w p)).Sig := by
  have lits : ∀ s ∈ ("" : Str) :: "refused" :: "let by" :: wordsP, ∀ c ∈ s.cps.toList, c < 0x110000 := by decide +kernel
  cases e : duePr w p with
  | none => exact ⟨lits _ (by simp), trivial, trivial⟩
  | some x =>
    obtain ⟨h1, h2⟩ := duePr_word ok e
    refine ⟨lits _ (by simp), lits _ (List.mem_cons_of_mem _ (List.mem_cons_of_mem _ (List.mem_cons_of_mem _ h1))), ?_, trivial⟩
    rcases h2 with e2 | e2
    · show ∀ c ∈ x.2.cps.toList, c < 0x110000
      rw [e2]
      exact lits _ (by simp)
    · exact (isName_text e2).2
theorem heard_dep (o : Option (Str × Str)) : (heardP o).dep ≤ 64 := by cases o <;> exact (by decide : 1 ≤ 64)
end Bk
set_option Elab.async false
set_option linter.all false
set_option maxRecDepth 100000
set_option maxHeartbeats 4000000
/-! Bk103: printers spoilt (the law about printers looked at). -/
namespace Bk
open PySem PySem.Spec PyProof.Rows L2
theorem cut_mem {z : Str} {lo hi : Option Int} {c : Nat} (h : c ∈ (cutS z lo hi).cps.toList) : c ∈ z.cps.toList := by
  rw [cut_list] at h
  exact List.mem_of_mem_drop (List.mem_of_mem_take h)
theorem cut_le {z : Str} {lo hi : Option Int} : (cutS z lo hi).length ≤ z.length := by
  rw [str_len, str_len, cut_list, List.length_take, List.length_drop]
  omega
theorem nodup_subN : ∀ {l m : List Nat}, l.Nodup → (∀ x ∈ l, x ∈ m) → l.length ≤ m.length
  | [], m, _, _ => Nat.zero_le _
  | x :: l, m, h, s => by
    have hx := s x List.mem_cons_self
    obtain ⟨h1, h2⟩ := List.nodup_cons.1 h
    have ih := nodup_subN (l := l) (m := m.erase x) h2 fun y hy => (List.mem_erase_of_ne fun (z : y = x) => h1 (z ▸ hy)).2 (s y (List.mem_cons_of_mem _ hy))
    rw [List.length_erase_of_mem hx] at ih
    have := List.length_pos_of_mem hx
    rw [List.length_cons]
    omega
theorem LtN.step {n : Nat} {ls s : Str} (h : LtN n ls) (hl : s.length ≤ ls.length + 16) (hs : ∀ c ∈ s.cps.toList, c ∈ ls.cps.toList ∨ c ∈ signL ∨ c = 32 ∨ c = 10) (hf : (∀ c ∈ s.cps.toList, c ∈ ls.cps.toList ∨ c ≠ 32) ∨ s.length ≤ ls.length + 1) : LtN (n + 1) s where
  most := by have := h.most; omega
  sign := fun c hc => by
    rcases hs c hc with k | k
    · exact h.sign c k
    · exact k
  few := fun hn => by
    have n0 : n = 0 := by omega
    have g := h.good n0
    rcases hf with k | k
    · refine .inl fun z => ?_
      rcases k 32 z with a | a
      · have := g.low 32 a
        omega
      · exact a rfl
    · exact .inr (by have := g.most; omega)
  good := fun z => absurd z (Nat.succ_ne_zero n)
theorem LtN.low {n : Nat} {s : Str} (h : LtN n s) : ∀ c ∈ s.cps.toList, c < 0x110000 := fun c hc => by
  rcases h.sign c hc with k | k
  · have := signL_low k
    omega
  · omega
def otherS : Str := " Zz~!?\x40#&=+;"
theorem otherS_nd : otherS.cps.toList.Nodup := by decide +kernel
theorem otherS_len : otherS.length = 12 := by decide +kernel
theorem otherS_has : 32 ∈ otherS.cps.toList := by decide +kernel
theorem otherS_low : ∀ c ∈ otherS.cps.toList, c < 0x110000 := by decide +kernel
theorem other_pos {n : Nat} {ls : Str} (h : LtN n ls) (hn : n ≤ 1) : 1 ≤ (otherS.cps.toList.filter fun c => !decide (c ∈ ls.cps.toList)).length := by
  refine Nat.one_le_iff_ne_zero.2 fun z => ?_
  have z2 := List.eq_nil_of_length_eq_zero z
  have al : ∀ c ∈ otherS.cps.toList, c ∈ ls.cps.toList := fun c hc => by
    have k := List.filter_eq_nil_iff.1 z2 c hc
    by_cases q : c ∈ ls.cps.toList
    · exact q
    · exact absurd (by rw [decide_eq_false q]; rfl) k
  rcases h.few hn with k | k
  · exact k (al 32 otherS_has)
  · have := nodup_subN otherS_nd al
    rw [← str_len, ← str_len, otherS_len] at this
    omega
def moreS : Str := "!#$&'()*+,-./"
theorem moreS_sign : ∀ c ∈ moreS.cps.toList, c ∈ signL ∧ c ≠ 32 := by decide +kernel
theorem filter_snoc {α : Type} (f : α → Bool) (l : List α) (x : α) : (l ++ [x]).filter f = l.filter f ++ (if f x = true then [x] else []) := by
  rw [List.filter_append]
  congr 1
  by_cases h : f x = true
  · rw [if_pos h, List.filter_cons_of_pos h]
    rfl
  · rw [if_neg h, List.filter_cons_of_neg h]
    rfl
theorem ItN.ok {i : Itm} (h : ItN i) : ItB i := by
  cases i with
  | inl s => exact ⟨Nat.le_trans (h s rfl).1 (by decide), (h s rfl).2⟩
  | inr b => trivial
theorem itn_box (b : Int × Int) : ItN (.inr b) := fun s z => nomatch z
theorem rp_reps {H : Hp} {x : List (List Itm)} {v : V} (h : Rep H (rpD x) v) : ∃ a xs, v = .ref a ∧ H a = some (.tup xs) ∧ Reps H (x.map rwD) xs ∧ xs.length = x.length := by
  obtain ⟨a, xs, e, ha, r⟩ := h.tupI
  exact ⟨a, xs, e, ha, r, by rw [r.len, List.length_map]⟩
theorem reps_parts {α : Type} {f : α → D} {H : Hp} {as : List α} {xs : List V} (r : Reps H (as.map f) xs) (n : Nat) : Reps H ((as.take n).map f) (xs.take n) ∧ Reps H ((as.drop n).map f) (xs.drop n) := by
  induction n generalizing as xs with
  | zero => exact ⟨by simp only [List.take_zero, List.map, Reps], by simpa using r⟩
  | succ n ih =>
    cases as with
    | nil =>
      have := r.len
      cases xs with
      | nil => exact ⟨by simp only [List.take_nil, List.map, Reps], by simp only [List.drop_nil, List.map, Reps]⟩
      | cons x xs => simp at this
    | cons a as =>
      cases xs with
      | nil => have := r.len; simp at this
      | cons x xs =>
        obtain ⟨y, ys, e, r1, r2⟩ : ∃ y ys, x :: xs = y :: ys ∧ Rep H (f a) y ∧ Reps H (as.map f) ys := by simpa only [List.map, Reps] using r
        cases e
        have k := ih r2
        refine ⟨?_, k.2⟩
        simp only [List.take_succ_cons, List.map, Reps]
        exact ⟨_, _, rfl, r1, k.1⟩
/-- one thing in the place of another -/
theorem reps_exch {α : Type} {f : α → D} {H : Hp} {as bs : List α} {xs ys : List V} (r : Reps H (as.map f) xs) (s : Reps H (bs.map f) ys) (n : Nat) : Reps H ((as.take n ++ bs ++ as.drop (n + 1)).map f) (xs.take n ++ ys ++ xs.drop (n + 1)) := by
  rw [List.map_append, List.map_append]
  exact ((reps_parts r n).1.append s).append (reps_parts r (n + 1)).2
def spWoodK1 : Sp := fun vs H Q _ => ∃ (p : Addr) (mk mm : Nat), vs = [.ref p, .int (mk : Nat), .int (mm : Nat)] ∧ Box H p ∧ (1 ≤ mk ∧ mk ≤ 4) ∧ (1 ≤ mm ∧ mm ≤ 12) ∧ ∀ (w : Wd) (v : V) (H' : Hp), WoodOk w → 1 ≤ (tabFrom 0 w).length → Rep H' (woodD w) v → But p H H' → Box H' p → Q v H'
/-- a spoilt printer of a wood with makers -/
def spOddP : Sp := fun vs H Q _ => ∃ (p : Addr) (w : Wd) (wv pv : V) (pr : Prn) (n : Nat), vs = [.ref p, wv, pv] ∧ Box H p ∧ Rep H (woodD w) wv ∧ WoodOk w ∧ 1 ≤ (tabFrom 0 w).length ∧ Rep H (prD pr) pv ∧ PrnN n pr ∧ n ≤ 1 ∧
  ∀ (v' : V) (pr' : Prn) (H' : Hp), PrnN (n + 1) pr' → Rep H' (prD pr') v' → Kp p H H' → Q v' H'
theorem RpN.le {n m : Nat} {x : List (List Itm)} (h : RpN n x) (k : n ≤ m) : RpN m x := ⟨by have := h.rows; omega, fun r hr => by have := h.row r hr; omega, h.item⟩
theorem Rep.pr {H : Hp} {p : Prn} {a c b : Addr} {xs : List V} (ha : H a = some (.tup [.str p.1, .ref c, .ref b])) (hc : H c = some (.tup (p.2.1.map V.int))) (hb : H b = some (.tup xs)) (r : Reps H (p.2.2.map rpD) xs) : Rep H (prD p) (.ref a) :=
  Rep.tri ha (Rep.s _) (Rep.ints hc) (Rep.tupO hb r)
theorem flatten_len {α : Type} : ∀ {x : List (List α)} {r : List α}, r ∈ x → r.length ≤ x.flatten.length
  | [], _, h => nomatch h
  | a :: x, r, h => by
    rw [List.flatten_cons, List.length_append]
    rcases List.mem_cons.1 h with rfl | h
    · omega
    · have := flatten_len h
      omega
theorem PrOk.n0 {w : Wd} {p : Prn} (ok : WoodOk w) (h : PrOk w p) : PrnN 0 p where
  lets := h.lets.n0
  counts := by have := h.counts; have := ok.kinds; omega
  rules := by have := h.rules; have := ok.many; omega
  rule := fun x hx => by
    obtain ⟨j, hj⟩ := List.mem_iff_getElem?.1 hx
    have hl : j < p.2.2.length := (List.getElem?_eq_some_iff.1 hj).1
    obtain ⟨e, he⟩ : ∃ e, (tabFrom 0 w)[j]? = some e := ⟨_, List.getElem?_eq_getElem (by rw [← h.rules]; exact hl)⟩
    have k := h.rule j e x he hj
    have em := List.mem_of_getElem? he
    obtain ⟨ek, _⟩ := dueOf_in ok em
    have cm : cntAt p.2.1 e.1 ≤ 2 := by
      unfold cntAt
      rw [Int.toNat_natCast, List.getD_eq_getElem?_getD, List.getElem?_eq_getElem (by rw [h.counts]; exact ek)]
      exact (h.count _ (List.getElem_mem _)).2
    refine ⟨by have := k.len; omega, fun r hr => Nat.le_trans (flatten_len hr) k.many, fun r hr i hi s e => ?_⟩
    subst e
    have z := k.item _ (List.mem_flatten.2 ⟨r, hr, hi⟩)
    exact ⟨z.1.2, fun c hc => by have := h.lets.low c (z.2 c hc); omega⟩
theorem dueIts_none {ls : Str} {cs ps : List Int} : ∀ {l : List Itm} {seen : List (Int × Int)}, (∀ i ∈ l, ItOk ls cs ps i) → (l.filterMap boxOf).Nodup → (∀ b ∈ l.filterMap boxOf, b ∉ seen) → dueIts ls (ps.map (cntAt cs)) seen l = none
  | [], _, _, _, _ => rfl
  | i :: l, seen, h, nd, hs => by
    have hi := h i List.mem_cons_self
    have hr := fun j hj => h j (List.mem_cons_of_mem _ hj)
    cases i with
    | inl s =>
      have ih := dueIts_none (seen := seen) hr nd hs
      have e1 : dueIt ls (ps.map (cntAt cs)) seen (.inl s) = none := if_pos (by
        unfold txIn
        have n0 : s ≠ "" := fun z => by
          have := hi.1.1
          rw [z] at this
          exact absurd this (by decide)
        rw [decide_eq_true n0, Bool.true_and, List.all_eq_true]
        exact fun c hc => decide_eq_true (hi.2 c hc))
      show (dueIt ls (ps.map (cntAt cs)) seen (.inl s)).or (dueIts ls (ps.map (cntAt cs)) (seen ++ []) l) = none
      rw [e1, List.append_nil, ih]
      rfl
    | inr b =>
      have nd2 : (b :: l.filterMap boxOf).Nodup := nd
      obtain ⟨n1, n2⟩ := List.nodup_cons.1 nd2
      have hs2 : ∀ c ∈ b :: l.filterMap boxOf, c ∉ seen := hs
      have ih := dueIts_none (seen := seen ++ [b]) hr n2 fun c hc z => by
        rcases List.mem_append.1 z with z | z
        · exact hs2 c (List.mem_cons_of_mem _ hc) z
        · exact n1 (List.mem_singleton.1 z ▸ hc)
      obtain ⟨⟨a1, a2⟩, a3, a4⟩ := hi
      have ec : cntAt (ps.map (cntAt cs)) b.1 = cntAt cs (ps.getD b.1.toNat 0) := by
        have hl : b.1.toNat < ps.length := by omega
        show (ps.map (cntAt cs)).getD b.1.toNat 0 = _
        rw [List.getD_eq_getElem?_getD, List.getElem?_map, List.getD_eq_getElem?_getD, List.getElem?_eq_getElem hl]
        rfl
      have e1 : dueIt ls (ps.map (cntAt cs)) seen (.inr b) = none := by
        show (if 0 ≤ b.1 ∧ b.1 < ((ps.map (cntAt cs)).length : Nat) then if 0 ≤ b.2 ∧ b.2 < cntAt (ps.map (cntAt cs)) b.1 then if b ∈ seen then some ("twice" : Str) else none else some "box" else some "part") = none
        rw [if_pos ⟨a1, by rw [List.length_map]; exact a2⟩, if_pos ⟨a3, by rw [ec]; exact a4⟩, if_neg (hs2 b List.mem_cons_self)]
      show (dueIt ls (ps.map (cntAt cs)) seen (.inr b)).or (dueIts ls (ps.map (cntAt cs)) (seen ++ [b]) l) = none
      rw [e1, ih]
      rfl
theorem dueRps_none {ls : Str} {cs : List Int} {w : Wd} : ∀ {l : List ((Nat × Mk) × List (List Itm))}, (∀ x ∈ l, dueRp ls cs w x.1 x.2 = none) → dueRps ls cs w l = none
  | [], _ => rfl
  | x :: l, h => by
    rw [dueRps, h x List.mem_cons_self, dueRps_none fun y hy => h y (List.mem_cons_of_mem _ hy)]
    rfl
theorem duePr_none {w : Wd} {p : Prn} (h : PrOk w p) : duePr w p = none := by
  unfold duePr
  rw [if_pos (ltOk_iff.2 h.lets), if_pos (by
    unfold cnts2
    rw [decide_eq_true h.counts, Bool.true_and, List.all_eq_true]
    exact fun c hc => decide_eq_true (h.count c hc)), if_pos h.rules]
  refine dueRps_none fun x hx => ?_
  obtain ⟨j, hj⟩ := List.mem_iff_getElem?.1 hx
  obtain ⟨h1, h2⟩ := List.getElem?_zip_eq_some.1 hj
  have k := h.rule j x.1 x.2 h1 h2
  unfold dueRp
  rw [if_pos k.len]
  exact dueIts_none k.item k.once fun b _ z => nomatch z
theorem g_orT {K : PySem.W.Frag} {ta tb : TE} {σ : L2.St} {H : Hp} {Q : VK} (h : ta σ H fun x H1 => ∃ k, TruV K x H1 k ∧ if k = true then Q x H1 else tb σ H1 Q) : tOrT K ta tb σ H Q := h
theorem g_orSl {K : PySem.W.Frag} {tb : TE} {σ : L2.St} {H4 : Hp} {Q : VK} {p4 : Addr} {ys : List V} (R : Addr → Hp → Prop) (h4 : H4 p4 = some (.tup ys)) (key : ∀ t H5, R t H5 → Q (.ref t) H5) (h1 : R p4 H4) (h2 : (∀ t H5, R t H5 → Q (.ref t) H5) → tb σ H4 Q) : ∃ k, TruV K (.ref p4) H4 k ∧ if k = true then Q (.ref p4) H4 else tb σ H4 Q := by
  refine ⟨_, .inr (.inl ⟨_, sqT h4, rfl⟩), ?_⟩
  split
  · exact key _ _ h1
  · exact h2 key
theorem cutV_neg1 (xs : List V) : (cutV xs (some (-1)) none).length ≤ 1 := by
  unfold cutV
  have e : HT.sIx xs.length 0 (some (-1)) = (-1 + (xs.length : Int)).toNat := by
    show (if (-1 : Int) < 0 then (-1 + (xs.length : Int)).toNat else min (-1 : Int).toNat xs.length) = _
    rw [if_pos (by decide)]
  rw [e, HT.sIx_none, List.length_take, List.length_drop]
  omega
theorem reps_sub {α : Type} {f : α → D} {H : Hp} {as : List α} {xs ys : List V} {P : α → Prop} (r : Reps H (as.map f) xs) (h : ∀ a ∈ as, P a) (hy : ∀ y ∈ ys, y ∈ xs) : ∃ bs : List α, bs.length = ys.length ∧ (∀ b ∈ bs, P b) ∧ Reps H (bs.map f) ys := by
  refine acc_reps fun j v hj => ?_
  obtain ⟨i, hi⟩ := List.mem_iff_getElem?.1 (hy v (List.mem_of_getElem? hj))
  obtain ⟨d, hd, rd⟩ := r.get hi
  rw [List.getElem?_map] at hd
  cases e : as[i]? with
  | none => rw [e] at hd; cases hd
  | some a =>
    rw [e] at hd
    cases hd
    exact ⟨a, h a (List.mem_of_getElem? e), rd⟩
end Bk
namespace Lw
open PySem PySem.Spec PyProof.Rows L2 Bk
local macro_rules | `(tactic| walk_at "side") => `(tactic| first | assumption | decide | omega | exact .inl (.inl ⟨by decide, by decide⟩) | exact .inl (.inr ⟨by decide, by decide⟩) | exact ⟨by decide, by decide, by decide⟩ | exact ⟨by decide, by decide⟩)
local macro_rules | `(tactic| walk_at "heap") => `(tactic| first | assumption | exact upd_same | (refine Eq.trans (upd_ne (ne_of_none (by assumption) (by assumption))) ?_; assumption))
local macro_rules | `(tactic| walk_at "go1") => `(tactic| with_reducible first
  | refine g_seq ?_ | refine g_asg ?_ | refine g_ret ?_ | refine g_retN ?_ | refine g_drop ?_ | refine g_ifs ?_ | refine g_next ?_ | refine g_par ?_ | refine g_pair ?_ | refine g_name ?_ | refine g_sub ?_
  | refine g_c ?_ | refine g_op ?_ | refine g_un ?_ | refine g_cons ?_ | refine g_nil ?_ | refine g_cb ?_ | refine g_call ?_ | refine g_if ?_ | refine g_iT ?_ | refine g_iF ?_ | refine g_iNT ?_ | refine g_iNF ?_ | refine g_notV ?_ | refine g_not ?_ | refine g_and ?_ | refine g_or ?_
  | refine g_uT ?_ | refine g_test ?_ | refine g_tB ?_ | refine g_bl ?_ | refine g_chain ?_ | refine g_andV ?_ | refine g_orV ?_ | refine g_tbl ?_ | refine g_tin ?_ | refine g_addI ?_ | refine g_i0 ?_ | refine g_neg ?_ | refine g_eqI ?_ | refine g_neI ?_ | refine g_eqS ?_ | refine g_neS ?_ | refine g_neBB ?_ | refine g_neB ?_ | refine g_lz ?_ | refine g_bmS ?_ | refine g_tyStr ?_ | refine g_tyS ?_ | refine g_dnew ?_ | refine g_lcU ?_ | refine g_yes ?_ | refine g_dg ?_ | refine g_di ?_ | refine g_dni ?_ | refine g_dp ?_ | refine g_ds ?_ | refine g_for ?_ | refine g_rng1 ?_ | refine g_rng2 ?_ | refine g_zipA ?_ | refine g_sl ?_ | refine g_noP ?_ | refine g_part ?_ | refine g_exI ?_ | refine g_isNn ?_ | refine g_isNr ?_ | refine g_isNi ?_ | refine g_notNn ?_ | refine g_notNr ?_ | refine g_notNi ?_
  | refine g_abs ?_ | refine g_max ?_ | refine g_min ?_ | refine g_intI ?_ | refine g_intB ?_ | refine g_tup ?_ | refine g_lst ?_ | refine g_bm0 ?_ | refine g_bm ?_ | refine g_uJs ?_ | refine g_js ?_ | refine g_jn ?_ | refine g_fmt ?_)
local macro_rules | `(tactic| walk_at "go2") => `(tactic| first
  | refine g_var rfl ?_ | ((with_reducible apply g_iS); (· walk_at "side"))
  | ((with_reducible apply g_lenL); (· assumption)) | ((with_reducible apply g_lenT); (· assumption)) | ((with_reducible apply g_lenSq); (· assumption))
  | ((with_reducible apply g_ixL); (· assumption); (· rfl)) | ((with_reducible apply g_ixT); (· assumption); (· rfl))
  | ((with_reducible apply g_tyL); (· assumption)))
local macro_rules | `(tactic| walk_at "go") => `(tactic| repeat (first | walk_at "go1" | walk_at "go2"))
def top (i : Nat) : Stmt := PySem.Challenge.pw_boughkept_k41_printers_looked_at.main.body.getD i (.Pass ⟨0, 0, 0, 0⟩)
abbrev sI_NoText : Stmt := inClass (top 2) 0
abbrev sI_NoWood : Stmt := inClass (top 3) 0
abbrev sI_NoTree : Stmt := inClass (top 4) 0
abbrev sI_NoWord : Stmt := inClass (top 5) 0
abbrev sI_TooLong : Stmt := inClass (top 6) 0
abbrev sI_NoReader : Stmt := inClass (top 7) 0
abbrev sI_NoFit : Stmt := inClass (top 8) 0
abbrev sI_NoPrinter : Stmt := inClass (top 9) 0
theorem scI_NoPrinter : FnScope ["self", "word", "maker"] ["self", "word", "maker"] (defScope sI_NoPrinter) := ⟨rfl, rfl, rfl, by decide +kernel, rfl, by decide +kernel, by decide +kernel⟩
abbrev sI_NoTurner : Stmt := inClass (top 10) 0
abbrev sI_TooWide : Stmt := inClass (top 11) 0
abbrev sI_NoRow : Stmt := inClass (top 12) 0
abbrev s_kinds_by_name : Stmt := top 14
abbrev N_kinds_by_name : List Str := ["wood", "number", "name", "makers"]
theorem sc_kinds_by_name : FnScope ["wood", "number", "name", "makers"] ["wood"] (defScope s_kinds_by_name) := ⟨rfl, rfl, rfl, by decide +kernel, rfl, by decide +kernel, by decide +kernel⟩
abbrev s_makers_of : Stmt := top 15
abbrev N_makers_of : List Str := ["wood", "found", "kind", "makers", "name", "parts"]
theorem sc_makers_of : FnScope ["wood", "found", "kind", "makers", "name", "parts"] ["wood"] (defScope s_makers_of) := ⟨rfl, rfl, rfl, by decide +kernel, rfl, by decide +kernel, by decide +kernel⟩
abbrev s_maker_table : Stmt := top 16
abbrev N_maker_table : List Str := ["wood", "kinds", "found", "number", "kind", "makers", "name", "parts", "part"]
theorem sc_maker_table : FnScope ["wood", "kinds", "found", "number", "kind", "makers", "name", "parts", "part"] ["wood"] (defScope s_maker_table) := ⟨rfl, rfl, rfl, by decide +kernel, rfl, by decide +kernel, by decide +kernel⟩
abbrev s_kind_of : Stmt := top 17
theorem sc_kind_of : FnScope ["wood", "maker"] ["wood", "maker"] (defScope s_kind_of) := ⟨rfl, rfl, rfl, by decide +kernel, rfl, by decide +kernel, by decide +kernel⟩
abbrev s_parts_of : Stmt := top 18
theorem sc_parts_of : FnScope ["wood", "maker"] ["wood", "maker"] (defScope s_parts_of) := ⟨rfl, rfl, rfl, by decide +kernel, rfl, by decide +kernel, by decide +kernel⟩
abbrev s_need : Stmt := top 22
theorem sc_need : FnScope ["good", "word", "maker"] ["good", "word", "maker"] (defScope s_need) := ⟨rfl, rfl, rfl, by decide +kernel, rfl, by decide +kernel, by decide +kernel⟩
abbrev s_is_letters : Stmt := top 23
abbrev N_is_letters : List Str := ["text", "sign"]
theorem sc_is_letters : FnScope ["text", "sign"] ["text"] (defScope s_is_letters) := ⟨rfl, rfl, rfl, by decide +kernel, rfl, by decide +kernel, by decide +kernel⟩
abbrev s_look_item : Stmt := top 24
abbrev N_look_item : List Str := ["item", "letters", "counts", "seen", "part", "box", "sign"]
theorem sc_look_item : FnScope ["item", "letters", "counts", "seen", "part", "box", "sign"] ["item", "letters", "counts", "seen"] (defScope s_look_item) := ⟨rfl, rfl, rfl, by decide +kernel, rfl, by decide +kernel, by decide +kernel⟩
abbrev s_look_printer : Stmt := top 25
abbrev N_look_printer : List Str := ["wood", "printer", "letters", "counts", "rules", "makers", "maker", "rows", "own", "seen", "row", "item", "wrong", "count", "part"]
theorem sc_look_printer : FnScope ["wood", "printer", "letters", "counts", "rules", "makers", "maker", "rows", "own", "seen", "row", "item", "wrong", "count", "part"] ["wood", "printer"] (defScope s_look_printer) := ⟨rfl, rfl, rfl, by decide +kernel, rfl, by decide +kernel, by decide +kernel⟩
abbrev s_law_box : Stmt := top 27
theorem sc_law_box : FnScope ["_law_script", "_law_k", "_law_cell", "_law_seed"] ["_law_script", "_law_k"] (defScope s_law_box) := ⟨rfl, rfl, rfl, by decide +kernel, rfl, by decide +kernel, by decide +kernel⟩
abbrev s_law_take : Stmt := top 28
theorem sc_law_take : FnScope ["_law_box_here", "_law_many", "_law_digit", "_law_one"] ["_law_box_here", "_law_many"] (defScope s_law_take) := ⟨rfl, rfl, rfl, by decide +kernel, rfl, by decide +kernel, by decide +kernel⟩
abbrev s_law_names : Stmt := top 29
abbrev N_law_names : List Str := ["_law_box_here", "_law_many", "_law_letters_here", "_law_stem", "_law_at", "_law_first", "_law_found", "_law_k", "_law_name"]
theorem sc_law_names : FnScope ["_law_box_here", "_law_many", "_law_letters_here", "_law_stem", "_law_at", "_law_first", "_law_found", "_law_k", "_law_name"] ["_law_box_here", "_law_many"] (defScope s_law_names) := ⟨rfl, rfl, rfl, by decide +kernel, rfl, by decide +kernel, by decide +kernel⟩
abbrev s_law_wood : Stmt := top 30
abbrev N_law_wood : List Str := ["_law_box_here", "_law_most_kinds", "_law_most_makers", "_law_many", "_law_names_here", "_law_makers_here", "_law_m", "_law_kind", "_law_count", "_law_parts", "_law_k", "_law_p"]
theorem sc_law_wood : FnScope ["_law_box_here", "_law_most_kinds", "_law_most_makers", "_law_many", "_law_names_here", "_law_makers_here", "_law_m", "_law_kind", "_law_count", "_law_parts", "_law_k", "_law_p"] ["_law_box_here", "_law_most_kinds", "_law_most_makers"] (defScope s_law_wood) := ⟨rfl, rfl, rfl, by decide +kernel, rfl, by decide +kernel, by decide +kernel⟩
abbrev s_law_makers : Stmt := top 31
abbrev N_law_makers : List Str := ["_law_wood_here", "_law_names_here", "_law_found", "_law_k", "_law_name", "_law_makers_here", "_law_maker", "_law_parts", "_law_kind", "_law_part"]
theorem sc_law_makers : FnScope ["_law_wood_here", "_law_names_here", "_law_found", "_law_k", "_law_name", "_law_makers_here", "_law_maker", "_law_parts", "_law_kind", "_law_part"] ["_law_wood_here"] (defScope s_law_makers) := ⟨rfl, rfl, rfl, by decide +kernel, rfl, by decide +kernel, by decide +kernel⟩
abbrev s_law_letters : Stmt := top 32
abbrev N_law_letters : List Str := ["_law_box_here", "_law_many", "_law_left", "_law_k"]
theorem sc_law_letters : FnScope ["_law_box_here", "_law_many", "_law_left", "_law_k"] ["_law_box_here", "_law_many"] (defScope s_law_letters) := ⟨rfl, rfl, rfl, by decide +kernel, rfl, by decide +kernel, by decide +kernel⟩
abbrev s_law_item_text : Stmt := top 33
abbrev N_law_item_text : List Str := ["_law_box_here", "_law_letters_here", "_law_many", "_law_k"]
theorem sc_law_item_text : FnScope ["_law_box_here", "_law_letters_here", "_law_many", "_law_k"] ["_law_box_here", "_law_letters_here"] (defScope s_law_item_text) := ⟨rfl, rfl, rfl, by decide +kernel, rfl, by decide +kernel, by decide +kernel⟩
abbrev s_law_text_counts : Stmt := top 34
theorem sc_law_text_counts : FnScope ["_law_box_here", "_law_wood_here", "_law_most", "_law_found", "_law_kind"] ["_law_box_here", "_law_wood_here", "_law_most"] (defScope s_law_text_counts) := ⟨rfl, rfl, rfl, by decide +kernel, rfl, by decide +kernel, by decide +kernel⟩
abbrev s_law_rows_of_items : Stmt := top 35
abbrev N_law_rows_of_items : List Str := ["_law_box_here", "_law_letters_here", "_law_many", "_law_left", "_law_rows", "_law_turn", "_law_row", "_law_j"]
theorem sc_law_rows_of_items : FnScope ["_law_box_here", "_law_letters_here", "_law_many", "_law_left", "_law_rows", "_law_turn", "_law_row", "_law_j"] ["_law_box_here", "_law_letters_here", "_law_many", "_law_left"] (defScope s_law_rows_of_items) := ⟨rfl, rfl, rfl, by decide +kernel, rfl, by decide +kernel, by decide +kernel⟩
abbrev s_law_boxes_left : Stmt := top 36
abbrev N_law_boxes_left : List Str := ["_law_parts", "_law_counts", "_law_left", "_law_p", "_law_part", "_law_b"]
theorem sc_law_boxes_left : FnScope ["_law_parts", "_law_counts", "_law_left", "_law_p", "_law_part", "_law_b"] ["_law_parts", "_law_counts"] (defScope s_law_boxes_left) := ⟨rfl, rfl, rfl, by decide +kernel, rfl, by decide +kernel, by decide +kernel⟩
abbrev s_law_printer : Stmt := top 37
theorem sc_law_printer : FnScope ["_law_box_here", "_law_wood_here", "_law_letters_here", "_law_counts", "_law_rules", "_law_maker", "_law_kind", "_law_parts"] ["_law_box_here", "_law_wood_here", "_law_letters_here", "_law_counts"] (defScope s_law_printer) := ⟨rfl, rfl, rfl, by decide +kernel, rfl, by decide +kernel, by decide +kernel⟩
abbrev s_law_wrong_item : Stmt := top 38
abbrev N_law_wrong_item : List Str := ["_law_item", "_law_letters_here", "_law_own", "_law_seen", "_law_part", "_law_at", "_law_sign"]
theorem sc_law_wrong_item : FnScope ["_law_item", "_law_letters_here", "_law_own", "_law_seen", "_law_part", "_law_at", "_law_sign"] ["_law_item", "_law_letters_here", "_law_own", "_law_seen"] (defScope s_law_wrong_item) := ⟨rfl, rfl, rfl, by decide +kernel, rfl, by decide +kernel, by decide +kernel⟩
abbrev s_law_due : Stmt := top 39
abbrev N_law_due : List Str := ["_law_wood_here", "_law_printer_here", "_law_letters_here", "_law_counts", "_law_rules", "_law_makers_here", "_law_bad", "_law_maker", "_law_kind", "_law_parts", "_law_rows", "_law_seen", "_law_row", "_law_item", "_law_wrong", "_law_sign", "_law_count", "_law_part"]
theorem sc_law_due : FnScope ["_law_wood_here", "_law_printer_here", "_law_letters_here", "_law_counts", "_law_rules", "_law_makers_here", "_law_bad", "_law_maker", "_law_kind", "_law_parts", "_law_rows", "_law_seen", "_law_row", "_law_item", "_law_wrong", "_law_sign", "_law_count", "_law_part"] ["_law_wood_here", "_law_printer_here"] (defScope s_law_due) := ⟨rfl, rfl, rfl, by decide +kernel, rfl, by decide +kernel, by decide +kernel⟩
abbrev s_law_exchanged : Stmt := top 40
theorem sc_law_exchanged : FnScope ["_law_some", "_law_at", "_law_things"] ["_law_some", "_law_at", "_law_things"] (defScope s_law_exchanged) := ⟨rfl, rfl, rfl, by decide +kernel, rfl, by decide +kernel, by decide +kernel⟩
abbrev s_law_odd_letters : Stmt := top 41
abbrev N_law_odd_letters : List Str := ["_law_box_here", "_law_letters_here", "_law_at", "_law_form", "_law_more", "_law_sign"]
theorem sc_law_odd_letters : FnScope ["_law_box_here", "_law_letters_here", "_law_at", "_law_form", "_law_more", "_law_sign"] ["_law_box_here", "_law_letters_here"] (defScope s_law_odd_letters) := ⟨rfl, rfl, rfl, by decide +kernel, rfl, by decide +kernel, by decide +kernel⟩
abbrev s_law_odd_item : Stmt := top 42
abbrev N_law_odd_item : List Str := ["_law_box_here", "_law_letters_here", "_law_item", "_law_rows", "_law_own", "_law_form", "_law_number", "_law_other", "_law_some", "_law_row", "_law_sign", "_law_one"]
theorem sc_law_odd_item : FnScope ["_law_box_here", "_law_letters_here", "_law_item", "_law_rows", "_law_own", "_law_form", "_law_number", "_law_other", "_law_some", "_law_row", "_law_sign", "_law_one"] ["_law_box_here", "_law_letters_here", "_law_item", "_law_rows", "_law_own"] (defScope s_law_odd_item) := ⟨rfl, rfl, rfl, by decide +kernel, rfl, by decide +kernel, by decide +kernel⟩
abbrev s_law_odd_rows : Stmt := top 43
theorem sc_law_odd_rows : FnScope ["_law_box_here", "_law_printer_here", "_law_m", "_law_own", "_law_rows", "_law_form", "_law_j", "_law_at", "_law_old"] ["_law_box_here", "_law_printer_here", "_law_m", "_law_own"] (defScope s_law_odd_rows) := ⟨rfl, rfl, rfl, by decide +kernel, rfl, by decide +kernel, by decide +kernel⟩
abbrev s_law_odd : Stmt := top 44
abbrev N_law_odd : List Str := ["_law_box_here", "_law_wood_here", "_law_printer_here", "_law_letters_here", "_law_counts", "_law_rules", "_law_form", "_law_makers_here", "_law_k", "_law_m", "_law_more", "_law_own", "_law_part"]
theorem sc_law_odd : FnScope ["_law_box_here", "_law_wood_here", "_law_printer_here", "_law_letters_here", "_law_counts", "_law_rules", "_law_form", "_law_makers_here", "_law_k", "_law_m", "_law_more", "_law_own", "_law_part"] ["_law_box_here", "_law_wood_here", "_law_printer_here"] (defScope s_law_odd) := ⟨rfl, rfl, rfl, by decide +kernel, rfl, by decide +kernel, by decide +kernel⟩
abbrev s_law_told : Stmt := top 45
theorem sc_law_told : FnScope ["_law_wood_here", "_law_printer_here", "_law_found", "e", "_law_others"] ["_law_wood_here", "_law_printer_here"] (defScope s_law_told) := ⟨rfl, rfl, rfl, by decide +kernel, rfl, by decide +kernel, by decide +kernel⟩
abbrev s_law_right : Stmt := top 46
theorem sc_law_right : FnScope ["_law_wood_here", "_law_printer_here", "_law_due_here"] ["_law_wood_here", "_law_printer_here"] (defScope s_law_right) := ⟨rfl, rfl, rfl, by decide +kernel, rfl, by decide +kernel, by decide +kernel⟩
abbrev s_law : Stmt := top 47
theorem sc_law : FnScope ["_law_script", "_law_k", "_law_box_here", "_law_odd_here", "_law_wood_here", "_law_letters_here", "_law_good", "_law_bad", "_law_turn", "_law_printer_here"] ["_law_script"] (defScope s_law) := ⟨rfl, rfl, rfl, by decide +kernel, rfl, by decide +kernel, by decide +kernel⟩
structure Txt (K : PySem.W.Frag) (mg : Str → Option Value) where
  a_BoughError : Addr
  m_BoughError : mg "BoughError" = some (.ref a_BoughError)
  x_BoughError : OexB K a_BoughError "ValueError.__new__" [.type "ValueError", .type "Exception", .type "BaseException", .type "object"]
  e_BoughError : PySem.W.exmOne K (.ref a_BoughError) (.ref a_BoughError) = some true
  c_BoughError : ExcC K a_BoughError
  i0_BoughError : PySem.W.isClsIn K a_BoughError = true
  t0_BoughError : PySem.W.typeIn K (.ref a_BoughError) = some (.type "type")
  s0_BoughError : PySem.W.subIn K (.ref a_BoughError) (.ref a_BoughError) = some true
  h_BoughError : XiC K a_BoughError "ValueError.__init__"
  a_NoText : Addr
  m_NoText : mg "NoText" = some (.ref a_NoText)
  x_NoText : OexB K a_NoText "ValueError.__new__" [.type "ValueError", .type "Exception", .type "BaseException", .type "object"]
  e_NoText : PySem.W.exmOne K (.ref a_NoText) (.ref a_NoText) = some true
  c_NoText : ExcC K a_NoText
  i0_NoText : PySem.W.isClsIn K a_NoText = true
  t0_NoText : PySem.W.typeIn K (.ref a_NoText) = some (.type "type")
  s0_NoText : PySem.W.subIn K (.ref a_NoText) (.ref a_NoText) = some true
  o_NoText : OexC K a_NoText
  aI_NoText : Addr
  dI_NoText : FuncData
  FI_NoText : Fun K "__init__" "NoText.__init__" sI_NoText aI_NoText dI_NoText
  bI_NoText : Binds K dI_NoText ["self", "row"] []
  i_NoText : PySem.W.findIn K (.ref a_NoText) "__init__" = some (some (.ref aI_NoText))
  t_NoText : PySem.W.typeIn K (.ref aI_NoText) = some (.type "function")
  n_NoText_row : PySem.W.findIn K (.ref a_NoText) "row" = some none
  a_NoWood : Addr
  m_NoWood : mg "NoWood" = some (.ref a_NoWood)
  x_NoWood : OexB K a_NoWood "ValueError.__new__" [.type "ValueError", .type "Exception", .type "BaseException", .type "object"]
  e_NoWood : PySem.W.exmOne K (.ref a_NoWood) (.ref a_NoWood) = some true
  c_NoWood : ExcC K a_NoWood
  i0_NoWood : PySem.W.isClsIn K a_NoWood = true
  t0_NoWood : PySem.W.typeIn K (.ref a_NoWood) = some (.type "type")
  s0_NoWood : PySem.W.subIn K (.ref a_NoWood) (.ref a_NoWood) = some true
  o_NoWood : OexC K a_NoWood
  aI_NoWood : Addr
  dI_NoWood : FuncData
  FI_NoWood : Fun K "__init__" "NoWood.__init__" sI_NoWood aI_NoWood dI_NoWood
  bI_NoWood : Binds K dI_NoWood ["self", "word", "name"] []
  i_NoWood : PySem.W.findIn K (.ref a_NoWood) "__init__" = some (some (.ref aI_NoWood))
  t_NoWood : PySem.W.typeIn K (.ref aI_NoWood) = some (.type "function")
  n_NoWood_word : PySem.W.findIn K (.ref a_NoWood) "word" = some none
  n_NoWood_name : PySem.W.findIn K (.ref a_NoWood) "name" = some none
  a_NoTree : Addr
  m_NoTree : mg "NoTree" = some (.ref a_NoTree)
  x_NoTree : OexB K a_NoTree "ValueError.__new__" [.type "ValueError", .type "Exception", .type "BaseException", .type "object"]
  e_NoTree : PySem.W.exmOne K (.ref a_NoTree) (.ref a_NoTree) = some true
  c_NoTree : ExcC K a_NoTree
  i0_NoTree : PySem.W.isClsIn K a_NoTree = true
  t0_NoTree : PySem.W.typeIn K (.ref a_NoTree) = some (.type "type")
  s0_NoTree : PySem.W.subIn K (.ref a_NoTree) (.ref a_NoTree) = some true
  o_NoTree : OexC K a_NoTree
  aI_NoTree : Addr
  dI_NoTree : FuncData
  FI_NoTree : Fun K "__init__" "NoTree.__init__" sI_NoTree aI_NoTree dI_NoTree
  bI_NoTree : Binds K dI_NoTree ["self", "at"] []
  i_NoTree : PySem.W.findIn K (.ref a_NoTree) "__init__" = some (some (.ref aI_NoTree))
  t_NoTree : PySem.W.typeIn K (.ref aI_NoTree) = some (.type "function")
  n_NoTree_at : PySem.W.findIn K (.ref a_NoTree) "at" = some none
  a_NoWord : Addr
  m_NoWord : mg "NoWord" = some (.ref a_NoWord)
  x_NoWord : OexB K a_NoWord "ValueError.__new__" [.type "ValueError", .type "Exception", .type "BaseException", .type "object"]
  e_NoWord : PySem.W.exmOne K (.ref a_NoWord) (.ref a_NoWord) = some true
  c_NoWord : ExcC K a_NoWord
  i0_NoWord : PySem.W.isClsIn K a_NoWord = true
  t0_NoWord : PySem.W.typeIn K (.ref a_NoWord) = some (.type "type")
  s0_NoWord : PySem.W.subIn K (.ref a_NoWord) (.ref a_NoWord) = some true
  o_NoWord : OexC K a_NoWord
  aI_NoWord : Addr
  dI_NoWord : FuncData
  FI_NoWord : Fun K "__init__" "NoWord.__init__" sI_NoWord aI_NoWord dI_NoWord
  bI_NoWord : Binds K dI_NoWord ["self", "at"] []
  i_NoWord : PySem.W.findIn K (.ref a_NoWord) "__init__" = some (some (.ref aI_NoWord))
  t_NoWord : PySem.W.typeIn K (.ref aI_NoWord) = some (.type "function")
  n_NoWord_at : PySem.W.findIn K (.ref a_NoWord) "at" = some none
  a_TooLong : Addr
  m_TooLong : mg "TooLong" = some (.ref a_TooLong)
  x_TooLong : OexB K a_TooLong "ValueError.__new__" [.type "ValueError", .type "Exception", .type "BaseException", .type "object"]
  e_TooLong : PySem.W.exmOne K (.ref a_TooLong) (.ref a_TooLong) = some true
  c_TooLong : ExcC K a_TooLong
  i0_TooLong : PySem.W.isClsIn K a_TooLong = true
  t0_TooLong : PySem.W.typeIn K (.ref a_TooLong) = some (.type "type")
  s0_TooLong : PySem.W.subIn K (.ref a_TooLong) (.ref a_TooLong) = some true
  o_TooLong : OexC K a_TooLong
  aI_TooLong : Addr
  dI_TooLong : FuncData
  FI_TooLong : Fun K "__init__" "TooLong.__init__" sI_TooLong aI_TooLong dI_TooLong
  bI_TooLong : Binds K dI_TooLong ["self", "most"] []
  i_TooLong : PySem.W.findIn K (.ref a_TooLong) "__init__" = some (some (.ref aI_TooLong))
  t_TooLong : PySem.W.typeIn K (.ref aI_TooLong) = some (.type "function")
  n_TooLong_most : PySem.W.findIn K (.ref a_TooLong) "most" = some none
  a_NoReader : Addr
  m_NoReader : mg "NoReader" = some (.ref a_NoReader)
  x_NoReader : OexB K a_NoReader "ValueError.__new__" [.type "ValueError", .type "Exception", .type "BaseException", .type "object"]
  e_NoReader : PySem.W.exmOne K (.ref a_NoReader) (.ref a_NoReader) = some true
  c_NoReader : ExcC K a_NoReader
  i0_NoReader : PySem.W.isClsIn K a_NoReader = true
  t0_NoReader : PySem.W.typeIn K (.ref a_NoReader) = some (.type "type")
  s0_NoReader : PySem.W.subIn K (.ref a_NoReader) (.ref a_NoReader) = some true
  o_NoReader : OexC K a_NoReader
  aI_NoReader : Addr
  dI_NoReader : FuncData
  FI_NoReader : Fun K "__init__" "NoReader.__init__" sI_NoReader aI_NoReader dI_NoReader
  bI_NoReader : Binds K dI_NoReader ["self", "word", "maker"] []
  i_NoReader : PySem.W.findIn K (.ref a_NoReader) "__init__" = some (some (.ref aI_NoReader))
  t_NoReader : PySem.W.typeIn K (.ref aI_NoReader) = some (.type "function")
  n_NoReader_word : PySem.W.findIn K (.ref a_NoReader) "word" = some none
  n_NoReader_maker : PySem.W.findIn K (.ref a_NoReader) "maker" = some none
  a_NoFit : Addr
  m_NoFit : mg "NoFit" = some (.ref a_NoFit)
  x_NoFit : OexB K a_NoFit "ValueError.__new__" [.type "ValueError", .type "Exception", .type "BaseException", .type "object"]
  e_NoFit : PySem.W.exmOne K (.ref a_NoFit) (.ref a_NoFit) = some true
  c_NoFit : ExcC K a_NoFit
  i0_NoFit : PySem.W.isClsIn K a_NoFit = true
  t0_NoFit : PySem.W.typeIn K (.ref a_NoFit) = some (.type "type")
  s0_NoFit : PySem.W.subIn K (.ref a_NoFit) (.ref a_NoFit) = some true
  o_NoFit : OexC K a_NoFit
  aI_NoFit : Addr
  dI_NoFit : FuncData
  FI_NoFit : Fun K "__init__" "NoFit.__init__" sI_NoFit aI_NoFit dI_NoFit
  bI_NoFit : Binds K dI_NoFit ["self", "at"] []
  i_NoFit : PySem.W.findIn K (.ref a_NoFit) "__init__" = some (some (.ref aI_NoFit))
  t_NoFit : PySem.W.typeIn K (.ref aI_NoFit) = some (.type "function")
  n_NoFit_at : PySem.W.findIn K (.ref a_NoFit) "at" = some none
  a_NoPrinter : Addr
  m_NoPrinter : mg "NoPrinter" = some (.ref a_NoPrinter)
  x_NoPrinter : OexB K a_NoPrinter "ValueError.__new__" [.type "ValueError", .type "Exception", .type "BaseException", .type "object"]
  e_NoPrinter : PySem.W.exmOne K (.ref a_NoPrinter) (.ref a_NoPrinter) = some true
  c_NoPrinter : ExcC K a_NoPrinter
  i0_NoPrinter : PySem.W.isClsIn K a_NoPrinter = true
  t0_NoPrinter : PySem.W.typeIn K (.ref a_NoPrinter) = some (.type "type")
  s0_NoPrinter : PySem.W.subIn K (.ref a_NoPrinter) (.ref a_NoPrinter) = some true
  o_NoPrinter : OexC K a_NoPrinter
  aI_NoPrinter : Addr
  dI_NoPrinter : FuncData
  FI_NoPrinter : Fun K "__init__" "NoPrinter.__init__" sI_NoPrinter aI_NoPrinter dI_NoPrinter
  bI_NoPrinter : Binds K dI_NoPrinter ["self", "word", "maker"] []
  i_NoPrinter : PySem.W.findIn K (.ref a_NoPrinter) "__init__" = some (some (.ref aI_NoPrinter))
  t_NoPrinter : PySem.W.typeIn K (.ref aI_NoPrinter) = some (.type "function")
  n_NoPrinter_word : PySem.W.findIn K (.ref a_NoPrinter) "word" = some none
  n_NoPrinter_maker : PySem.W.findIn K (.ref a_NoPrinter) "maker" = some none
  a_NoTurner : Addr
  m_NoTurner : mg "NoTurner" = some (.ref a_NoTurner)
  x_NoTurner : OexB K a_NoTurner "ValueError.__new__" [.type "ValueError", .type "Exception", .type "BaseException", .type "object"]
  e_NoTurner : PySem.W.exmOne K (.ref a_NoTurner) (.ref a_NoTurner) = some true
  c_NoTurner : ExcC K a_NoTurner
  i0_NoTurner : PySem.W.isClsIn K a_NoTurner = true
  t0_NoTurner : PySem.W.typeIn K (.ref a_NoTurner) = some (.type "type")
  s0_NoTurner : PySem.W.subIn K (.ref a_NoTurner) (.ref a_NoTurner) = some true
  o_NoTurner : OexC K a_NoTurner
  aI_NoTurner : Addr
  dI_NoTurner : FuncData
  FI_NoTurner : Fun K "__init__" "NoTurner.__init__" sI_NoTurner aI_NoTurner dI_NoTurner
  bI_NoTurner : Binds K dI_NoTurner ["self", "word", "maker"] []
  i_NoTurner : PySem.W.findIn K (.ref a_NoTurner) "__init__" = some (some (.ref aI_NoTurner))
  t_NoTurner : PySem.W.typeIn K (.ref aI_NoTurner) = some (.type "function")
  n_NoTurner_word : PySem.W.findIn K (.ref a_NoTurner) "word" = some none
  n_NoTurner_maker : PySem.W.findIn K (.ref a_NoTurner) "maker" = some none
  a_TooWide : Addr
  m_TooWide : mg "TooWide" = some (.ref a_TooWide)
  x_TooWide : OexB K a_TooWide "ValueError.__new__" [.type "ValueError", .type "Exception", .type "BaseException", .type "object"]
  e_TooWide : PySem.W.exmOne K (.ref a_TooWide) (.ref a_TooWide) = some true
  c_TooWide : ExcC K a_TooWide
  i0_TooWide : PySem.W.isClsIn K a_TooWide = true
  t0_TooWide : PySem.W.typeIn K (.ref a_TooWide) = some (.type "type")
  s0_TooWide : PySem.W.subIn K (.ref a_TooWide) (.ref a_TooWide) = some true
  o_TooWide : OexC K a_TooWide
  aI_TooWide : Addr
  dI_TooWide : FuncData
  FI_TooWide : Fun K "__init__" "TooWide.__init__" sI_TooWide aI_TooWide dI_TooWide
  bI_TooWide : Binds K dI_TooWide ["self", "rooms"] []
  i_TooWide : PySem.W.findIn K (.ref a_TooWide) "__init__" = some (some (.ref aI_TooWide))
  t_TooWide : PySem.W.typeIn K (.ref aI_TooWide) = some (.type "function")
  n_TooWide_rooms : PySem.W.findIn K (.ref a_TooWide) "rooms" = some none
  a_NoRow : Addr
  m_NoRow : mg "NoRow" = some (.ref a_NoRow)
  x_NoRow : OexB K a_NoRow "ValueError.__new__" [.type "ValueError", .type "Exception", .type "BaseException", .type "object"]
  e_NoRow : PySem.W.exmOne K (.ref a_NoRow) (.ref a_NoRow) = some true
  c_NoRow : ExcC K a_NoRow
  i0_NoRow : PySem.W.isClsIn K a_NoRow = true
  t0_NoRow : PySem.W.typeIn K (.ref a_NoRow) = some (.type "type")
  s0_NoRow : PySem.W.subIn K (.ref a_NoRow) (.ref a_NoRow) = some true
  aI_NoRow : Addr
  dI_NoRow : FuncData
  FI_NoRow : Fun K "__init__" "NoRow.__init__" sI_NoRow aI_NoRow dI_NoRow
  bI_NoRow : Binds K dI_NoRow ["self"] []
  i_NoRow : PySem.W.findIn K (.ref a_NoRow) "__init__" = some (some (.ref aI_NoRow))
  t_NoRow : PySem.W.typeIn K (.ref aI_NoRow) = some (.type "function")
  v_ValueError : PySem.W.findCls K (.type "ValueError") (.type "type") "__init__" = some (.val (.builtin "ValueError.__init__"))
  m_MOST_LETTERS : ∃ u, mg "MOST_LETTERS" = some u ∧ RelV (.int 9) u
  m_MOST_BOXES : ∃ u, mg "MOST_BOXES" = some u ∧ RelV (.int 2) u
  a_kinds_by_name : Addr
  d_kinds_by_name : FuncData
  m_kinds_by_name : mg "kinds_by_name" = some (.ref a_kinds_by_name)
  b_kinds_by_name : Binds K d_kinds_by_name ["wood"] []
  F_kinds_by_name : Fun K "kinds_by_name" "kinds_by_name" s_kinds_by_name a_kinds_by_name d_kinds_by_name
  a_makers_of : Addr
  d_makers_of : FuncData
  m_makers_of : mg "makers_of" = some (.ref a_makers_of)
  b_makers_of : Binds K d_makers_of ["wood"] []
  F_makers_of : Fun K "makers_of" "makers_of" s_makers_of a_makers_of d_makers_of
  a_maker_table : Addr
  d_maker_table : FuncData
  m_maker_table : mg "maker_table" = some (.ref a_maker_table)
  b_maker_table : Binds K d_maker_table ["wood"] []
  F_maker_table : Fun K "maker_table" "maker_table" s_maker_table a_maker_table d_maker_table
  a_kind_of : Addr
  d_kind_of : FuncData
  m_kind_of : mg "kind_of" = some (.ref a_kind_of)
  b_kind_of : Binds K d_kind_of ["wood", "maker"] []
  F_kind_of : Fun K "kind_of" "kind_of" s_kind_of a_kind_of d_kind_of
  a_parts_of : Addr
  d_parts_of : FuncData
  m_parts_of : mg "parts_of" = some (.ref a_parts_of)
  b_parts_of : Binds K d_parts_of ["wood", "maker"] []
  F_parts_of : Fun K "parts_of" "parts_of" s_parts_of a_parts_of d_parts_of
  a_need : Addr
  d_need : FuncData
  m_need : mg "need" = some (.ref a_need)
  b_need : Binds K d_need ["good", "word", "maker"] []
  F_need : Fun K "need" "need" s_need a_need d_need
  a_is_letters : Addr
  d_is_letters : FuncData
  m_is_letters : mg "is_letters" = some (.ref a_is_letters)
  b_is_letters : Binds K d_is_letters ["text"] []
  F_is_letters : Fun K "is_letters" "is_letters" s_is_letters a_is_letters d_is_letters
  a_look_item : Addr
  d_look_item : FuncData
  m_look_item : mg "look_item" = some (.ref a_look_item)
  b_look_item : Binds K d_look_item ["item", "letters", "counts", "seen"] []
  F_look_item : Fun K "look_item" "look_item" s_look_item a_look_item d_look_item
  a_look_printer : Addr
  d_look_printer : FuncData
  m_look_printer : mg "look_printer" = some (.ref a_look_printer)
  b_look_printer : Binds K d_look_printer ["wood", "printer"] []
  F_look_printer : Fun K "look_printer" "look_printer" s_look_printer a_look_printer d_look_printer
  a_law_box : Addr
  d_law_box : FuncData
  m_law_box : mg "_law_box" = some (.ref a_law_box)
  b_law_box : Binds K d_law_box ["_law_script", "_law_k"] []
  F_law_box : Fun K "_law_box" "_law_box" s_law_box a_law_box d_law_box
  a_law_take : Addr
  d_law_take : FuncData
  m_law_take : mg "_law_take" = some (.ref a_law_take)
  b_law_take : Binds K d_law_take ["_law_box_here", "_law_many"] []
  F_law_take : Fun K "_law_take" "_law_take" s_law_take a_law_take d_law_take
  a_law_names : Addr
  d_law_names : FuncData
  m_law_names : mg "_law_names" = some (.ref a_law_names)
  b_law_names : Binds K d_law_names ["_law_box_here", "_law_many"] []
  F_law_names : Fun K "_law_names" "_law_names" s_law_names a_law_names d_law_names
  a_law_wood : Addr
  d_law_wood : FuncData
  m_law_wood : mg "_law_wood" = some (.ref a_law_wood)
  b_law_wood : Binds K d_law_wood ["_law_box_here", "_law_most_kinds", "_law_most_makers"] []
  F_law_wood : Fun K "_law_wood" "_law_wood" s_law_wood a_law_wood d_law_wood
  a_law_makers : Addr
  d_law_makers : FuncData
  m_law_makers : mg "_law_makers" = some (.ref a_law_makers)
  b_law_makers : Binds K d_law_makers ["_law_wood_here"] []
  F_law_makers : Fun K "_law_makers" "_law_makers" s_law_makers a_law_makers d_law_makers
  a_law_letters : Addr
  d_law_letters : FuncData
  m_law_letters : mg "_law_letters" = some (.ref a_law_letters)
  b_law_letters : Binds K d_law_letters ["_law_box_here", "_law_many"] []
  F_law_letters : Fun K "_law_letters" "_law_letters" s_law_letters a_law_letters d_law_letters
  a_law_item_text : Addr
  d_law_item_text : FuncData
  m_law_item_text : mg "_law_item_text" = some (.ref a_law_item_text)
  b_law_item_text : Binds K d_law_item_text ["_law_box_here", "_law_letters_here"] []
  F_law_item_text : Fun K "_law_item_text" "_law_item_text" s_law_item_text a_law_item_text d_law_item_text
  a_law_text_counts : Addr
  d_law_text_counts : FuncData
  m_law_text_counts : mg "_law_text_counts" = some (.ref a_law_text_counts)
  b_law_text_counts : Binds K d_law_text_counts ["_law_box_here", "_law_wood_here", "_law_most"] []
  F_law_text_counts : Fun K "_law_text_counts" "_law_text_counts" s_law_text_counts a_law_text_counts d_law_text_counts
  a_law_rows_of_items : Addr
  d_law_rows_of_items : FuncData
  m_law_rows_of_items : mg "_law_rows_of_items" = some (.ref a_law_rows_of_items)
  b_law_rows_of_items : Binds K d_law_rows_of_items ["_law_box_here", "_law_letters_here", "_law_many", "_law_left"] []
  F_law_rows_of_items : Fun K "_law_rows_of_items" "_law_rows_of_items" s_law_rows_of_items a_law_rows_of_items d_law_rows_of_items
  a_law_boxes_left : Addr
  d_law_boxes_left : FuncData
  m_law_boxes_left : mg "_law_boxes_left" = some (.ref a_law_boxes_left)
  b_law_boxes_left : Binds K d_law_boxes_left ["_law_parts", "_law_counts"] []
  F_law_boxes_left : Fun K "_law_boxes_left" "_law_boxes_left" s_law_boxes_left a_law_boxes_left d_law_boxes_left
  a_law_printer : Addr
  d_law_printer : FuncData
  m_law_printer : mg "_law_printer" = some (.ref a_law_printer)
  b_law_printer : Binds K d_law_printer ["_law_box_here", "_law_wood_here", "_law_letters_here", "_law_counts"] []
  F_law_printer : Fun K "_law_printer" "_law_printer" s_law_printer a_law_printer d_law_printer
  a_law_wrong_item : Addr
  d_law_wrong_item : FuncData
  m_law_wrong_item : mg "_law_wrong_item" = some (.ref a_law_wrong_item)
  b_law_wrong_item : Binds K d_law_wrong_item ["_law_item", "_law_letters_here", "_law_own", "_law_seen"] []
  F_law_wrong_item : Fun K "_law_wrong_item" "_law_wrong_item" s_law_wrong_item a_law_wrong_item d_law_wrong_item
  a_law_due : Addr
  d_law_due : FuncData
  m_law_due : mg "_law_due" = some (.ref a_law_due)
  b_law_due : Binds K d_law_due ["_law_wood_here", "_law_printer_here"] []
  F_law_due : Fun K "_law_due" "_law_due" s_law_due a_law_due d_law_due
  a_law_exchanged : Addr
  d_law_exchanged : FuncData
  m_law_exchanged : mg "_law_exchanged" = some (.ref a_law_exchanged)
  b_law_exchanged : Binds K d_law_exchanged ["_law_some", "_law_at", "_law_things"] []
  F_law_exchanged : Fun K "_law_exchanged" "_law_exchanged" s_law_exchanged a_law_exchanged d_law_exchanged
  a_law_odd_letters : Addr
  d_law_odd_letters : FuncData
  m_law_odd_letters : mg "_law_odd_letters" = some (.ref a_law_odd_letters)
  b_law_odd_letters : Binds K d_law_odd_letters ["_law_box_here", "_law_letters_here"] []
  F_law_odd_letters : Fun K "_law_odd_letters" "_law_odd_letters" s_law_odd_letters a_law_odd_letters d_law_odd_letters
  a_law_odd_item : Addr
  d_law_odd_item : FuncData
  m_law_odd_item : mg "_law_odd_item" = some (.ref a_law_odd_item)
  b_law_odd_item : Binds K d_law_odd_item ["_law_box_here", "_law_letters_here", "_law_item", "_law_rows", "_law_own"] []
  F_law_odd_item : Fun K "_law_odd_item" "_law_odd_item" s_law_odd_item a_law_odd_item d_law_odd_item
  a_law_odd_rows : Addr
  d_law_odd_rows : FuncData
  m_law_odd_rows : mg "_law_odd_rows" = some (.ref a_law_odd_rows)
  b_law_odd_rows : Binds K d_law_odd_rows ["_law_box_here", "_law_printer_here", "_law_m", "_law_own"] []
  F_law_odd_rows : Fun K "_law_odd_rows" "_law_odd_rows" s_law_odd_rows a_law_odd_rows d_law_odd_rows
  a_law_odd : Addr
  d_law_odd : FuncData
  m_law_odd : mg "_law_odd" = some (.ref a_law_odd)
  b_law_odd : Binds K d_law_odd ["_law_box_here", "_law_wood_here", "_law_printer_here"] []
  F_law_odd : Fun K "_law_odd" "_law_odd" s_law_odd a_law_odd d_law_odd
  a_law_told : Addr
  d_law_told : FuncData
  m_law_told : mg "_law_told" = some (.ref a_law_told)
  b_law_told : Binds K d_law_told ["_law_wood_here", "_law_printer_here"] []
  F_law_told : Fun K "_law_told" "_law_told" s_law_told a_law_told d_law_told
  a_law_right : Addr
  d_law_right : FuncData
  m_law_right : mg "_law_right" = some (.ref a_law_right)
  b_law_right : Binds K d_law_right ["_law_wood_here", "_law_printer_here"] []
  F_law_right : Fun K "_law_right" "_law_right" s_law_right a_law_right d_law_right
  a_law : Addr
  d_law : FuncData
  m_law : mg "law" = some (.ref a_law)
  b_law : Binds K d_law ["_law_script"] []
  F_law : Fun K "law" "law" s_law a_law d_law
  z_ValueError : mg "ValueError" = none
  z_all : mg "all" = none
  z_dict : mg "dict" = none
  z_enumerate : mg "enumerate" = none
  z_int : mg "int" = none
  z_isinstance : mg "isinstance" = none
  z_len : mg "len" = none
  z_list : mg "list" = none
  z_max : mg "max" = none
  z_min : mg "min" = none
  z_ord : mg "ord" = none
  z_range : mg "range" = none
  z_set : mg "set" = none
  z_str : mg "str" = none
  z_sum : mg "sum" = none
  z_tuple : mg "tuple" = none
  z_zip : mg "zip" = none
  sWE : PySem.W.subIn K (.ref a_NoPrinter) (.ref a_BoughError) = some true
  sWV : PySem.W.subIn K (.ref a_NoPrinter) (.type "ValueError") = some true
  sW1 : PySem.W.subIn K (.ref a_NoPrinter) (.ref a_NoFit) = some false
  sW2 : PySem.W.subIn K (.ref a_NoPrinter) (.ref a_NoReader) = some false
  sW3 : PySem.W.subIn K (.ref a_NoPrinter) (.ref a_NoWood) = some false
  sW4 : PySem.W.subIn K (.ref a_NoPrinter) (.ref a_NoRow) = some false
  sW5 : PySem.W.subIn K (.ref a_NoPrinter) (.ref a_NoText) = some false
  sW6 : PySem.W.subIn K (.ref a_NoPrinter) (.ref a_NoTree) = some false
  sW7 : PySem.W.subIn K (.ref a_NoPrinter) (.ref a_NoTurner) = some false
  sW8 : PySem.W.subIn K (.ref a_NoPrinter) (.ref a_NoWord) = some false
  sW9 : PySem.W.subIn K (.ref a_NoPrinter) (.ref a_TooLong) = some false
  sWa : PySem.W.subIn K (.ref a_NoPrinter) (.ref a_TooWide) = some false
section
variable {P : Program} {w : World} {K : PySem.W.Frag} {mg : Str → Option Value} {base : Heap}
/-! NoText: made nowhere here -/
/-! NoWood: made nowhere here -/
/-! NoTree: made nowhere here -/
/-! NoWord: made nowhere here -/
/-! TooLong: made nowhere here -/
/-! NoReader: made nowhere here -/
/-! NoFit: made nowhere here -/
theorem ok_init_NoPrinter (T : Txt K mg) : FnOk P w K mg base (L2.CX P w) 1 T.aI_NoPrinter T.dI_NoPrinter ["self", "word", "maker"] (spExc2 K ([.type "ValueError", .type "Exception", .type "BaseException", .type "object"]) "word" "maker") := by
  refine T.FI_NoPrinter.okX scI_NoPrinter (fun vs H Q E h => ?_) (fun cdv A outer s H vs Q E hr h => ?_)
  · obtain ⟨_, _, _, _, rfl, _⟩ := h
    rfl
  obtain ⟨a, C, y, z, rfl, ho, ho2, n1, n2, ha, q⟩ := h
  refine ⟨_, pss_cons (ps_expr (pe_xinitO PySem.F.excBase_ValueError T.h_BoughError (by decide +kernel) rfl T.m_BoughError (pa_cons (uv 0) (pa_cons pe_str pa_nil)))) (pss_cons (ps_ost (uv 0) (uv 1)) (pss_one (ps_ost (uv 0) (uv 2)))), ?_⟩
  refine g_seq (g_drop ?_)
  show tCons (uV 0) _ _ _ _
  walk_at "go"
  refine ⟨C, by decide, ho, ha, ?_⟩
  walk_at "go"
  refine ⟨a, C, rfl, ho2, n1, .inl ⟨ha, fun dx hd ne => ?_⟩⟩
  walk_at "go"
  refine ⟨a, C, rfl, ho2, n2, .inr ⟨dx, _, upd_same, ?_, by simp, q dx hd ne⟩⟩
  rw [upd_ne ne, upd_same]
/-! NoTurner: made nowhere here -/
/-! TooWide: made nowhere here -/
/-! NoRow: made nowhere here -/
theorem vi_kinds_by_name_0 : Vis (defScope s_kinds_by_name) "wood" := by first | exact Or.inl (by decide +kernel) | exact Or.inr (Or.inl (by decide +kernel)) | exact Or.inr (Or.inr (by decide +kernel))
theorem ok_kinds_by_name (T : Txt K mg) : FnOk P w K mg base (L2.CX P w) 1 T.a_kinds_by_name T.d_kinds_by_name ["wood"] spKinds := by
  refine T.F_kinds_by_name.okX sc_kinds_by_name (fun vs H Q E h => ?_) (fun cdv A outer s H vs Q E hr h => ?_)
  · obtain ⟨_, _, rfl, _⟩ := h
    rfl
  obtain ⟨wd, v, rfl, rv, hl, q⟩ := h
  refine ⟨_, (pss_one (ps_ret (pe_callTy (call_dictP rfl) rfl T.z_dict boot_dict (pa_cons (pe_lc (own := [("number", 1), ("name", 2), ("makers", 3)]) (g := gTup K 2 (gCons (gName 1) (gCons (gTup K 2 (gCons (gName 2) (gCons (gName 3) gNil))) gNil))) rfl sc_kinds_by_name.nd (ui_enum rfl T.z_enumerate (pa_cons (uv 0 (hv := vi_kinds_by_name_0)) pa_nil)) (blkOk_by (own := [("number", 1), ("name", 2), ("makers", 3)]) (N := N_kinds_by_name) (sc := defScope s_kinds_by_name) (by decide +kernel)) (fun _ _ _ _ _ => (pg_tup rfl (pgs_cons (pg_name (i := 1) sc_kinds_by_name.nd rfl (by first | exact Or.inl rfl | exact Or.inr rfl)) (pgs_cons (pg_tup rfl (pgs_cons (pg_name (i := 2) sc_kinds_by_name.nd rfl (by first | exact Or.inl rfl | exact Or.inr rfl)) (pgs_cons (pg_name (i := 3) sc_kinds_by_name.nd rfl (by first | exact Or.inl rfl | exact Or.inr rfl)) pgs_nil))) pgs_nil)))) (fun _ _ _ _ _ => pts_nil) (fun _ _ _ _ _ => (pe_tup (pa_cons (uv 2) (pa_cons (uv 1) pa_nil))))) pa_nil)))), ?_⟩
  obtain ⟨a, xs, rfl, ha, rs⟩ := rv.tupI
  have lx : xs.length = wd.length := by rw [rs.len, List.length_map]
  walk_at "go"
  refine g_enT ?_
  walk_at "go"
  refine ⟨_, xs, rfl, sqT ha, fun D hD => ?_⟩
  refine lc_mapE walk_enumT (fun i H v => ∃ p k, v = .ref p ∧ wd[i]? = some k ∧ H p = some (.tup [.str k.1, .int (i : Nat)])) (by omega) hD (fun j H H' v t r => ?_) (fun H e => sqT (e _ _ ha)) ?_ ?_
  · obtain ⟨p, k, rfl, a1, a2⟩ := r
    exact ⟨p, k, rfl, a1, t _ _ a2⟩
  · rintro i x H2 H3 P N hi e ⟨t, y, z, rfl, ht, rfl, ey, ez⟩ k
    cases ey
    obtain ⟨kd, b, c, ys, ek, rfl, hb, hc, _⟩ := wood_at rs ez
    refine g_tup2 upd_same ?_
    walk_at "go"
    have e1 := Ex.new (o := .tup [.int (i : Nat), .ref b]) ht
    refine g_tup2 (e1 _ _ (e _ _ hb)) ?_
    walk_at "go"
    refine ⟨rfl, ?_⟩
    walk_at "go"
    refine g_new fun p hp => ?_
    exact k _ _ (e1.trans (Ex.new hp)) ⟨p, kd, rfl, ek, upd_same⟩
  · intro H2 acc e2 hacc hla hr2
    obtain ⟨ps, rfl, hps⟩ := paired_of wd 0 acc (by omega) fun j v hj => by
      obtain ⟨p, k, a1, a2, a3⟩ := hr2 j v hj
      exact ⟨p, k, a1, a2, by rw [Nat.zero_add]; exact a3⟩
    walk_at "go"
    refine ⟨_, ps, _, rfl, sqL hacc, hps _, fun p hp => ?_⟩
    exact q _ _ (e2.free hp) (e2.trans (Ex.new hp)) upd_same
theorem vi_makers_of_0 : Vis (defScope s_makers_of) "wood" := by first | exact Or.inl (by decide +kernel) | exact Or.inr (Or.inl (by decide +kernel)) | exact Or.inr (Or.inr (by decide +kernel))
theorem vi_makers_of_1 : Vis (defScope s_makers_of) "found" := by first | exact Or.inl (by decide +kernel) | exact Or.inr (Or.inl (by decide +kernel)) | exact Or.inr (Or.inr (by decide +kernel))
theorem vi_makers_of_3 : Vis (defScope s_makers_of) "makers" := by first | exact Or.inl (by decide +kernel) | exact Or.inr (Or.inl (by decide +kernel)) | exact Or.inr (Or.inr (by decide +kernel))
theorem lo_makers_of_1 : Loc (defScope s_makers_of) "found" := by first | exact Or.inl (by decide +kernel) | exact Or.inr (by decide +kernel)
theorem lo_makers_of_2 : Loc (defScope s_makers_of) "kind" := by first | exact Or.inl (by decide +kernel) | exact Or.inr (by decide +kernel)
theorem lo_makers_of_3 : Loc (defScope s_makers_of) "makers" := by first | exact Or.inl (by decide +kernel) | exact Or.inr (by decide +kernel)
theorem ok_makers_of (T : Txt K mg) : FnOk P w K mg base (L2.CX P w) 1 T.a_makers_of T.d_makers_of ["wood"] spMakersOf := by
  refine T.F_makers_of.okX sc_makers_of (fun vs H Q E h => ?_) (fun cdv A outer s H vs Q E hr h => ?_)
  · obtain ⟨_, _, rfl, _⟩ := h
    rfl
  obtain ⟨wd, v, rfl, rv, hl, hm, q⟩ := h
  refine ⟨_, (pss_cons (ps_set (i := 1) sc_makers_of.nd rfl lo_makers_of_1 (pe_lst pa_nil))
      (pss_cons (ps_for (passes_of rfl) rfl (ui_seq (uv 0 (hv := vi_makers_of_0))) (pg_tup rfl (pgs_cons (pg_name (i := 2) sc_makers_of.nd rfl lo_makers_of_2) (pgs_cons (pg_name (i := 3) sc_makers_of.nd rfl lo_makers_of_3) pgs_nil))) (pss_one (ps_aug (i := 1) sc_makers_of.nd rfl lo_makers_of_1 (pe_lc (own := [("name", 4), ("parts", 5)]) (g := gTup K 2 (gCons (gName 4) (gCons (gName 5) gNil))) rfl sc_makers_of.nd (ui_seq (uv 3 (hv := vi_makers_of_3))) (blkOk_by (own := [("name", 4), ("parts", 5)]) (N := N_makers_of) (sc := defScope s_makers_of) (by decide +kernel)) (fun _ _ _ _ _ => (pg_tup rfl (pgs_cons (pg_name (i := 4) sc_makers_of.nd rfl (by first | exact Or.inl rfl | exact Or.inr rfl)) (pgs_cons (pg_name (i := 5) sc_makers_of.nd rfl (by first | exact Or.inl rfl | exact Or.inr rfl)) pgs_nil)))) (fun _ _ _ _ _ => pts_nil) (fun _ _ _ _ _ => (uv 4))) ip_catL)))
      (pss_one (ps_ret (uv 1 (hv := vi_makers_of_1)))))), ?_⟩
  obtain ⟨a, xs, rfl, ha, rs⟩ := rv.tupI
  have lx : xs.length = wd.length := by rw [rs.len, List.length_map]
  walk_at "go"
  refine g_new fun l hl0 => ?_
  walk_at "go"
  refine g_seqTs ?_
  walk_at "go"
  refine ⟨_, rfl, ⟨xs, sqT (Ex.new hl0 _ _ ha)⟩, ?_⟩
  refine for_it walk_tup (fun i σ H1 => (∃ o2 o3 o4 o5, σ = [some (.ref a), some (.ref l), o2, o3, o4, o5]) ∧ Ex H H1 ∧ H1 l = some (.lst ((mkNames (wd.take i)).map V.str))) ⟨⟨none, none, none, none, rfl⟩, Ex.new hl0, upd_same⟩ (fun i σ H1 _ h => sqT (h.2.1 _ _ ha)) ?_ ?_
  · rintro i x σ H1 H1' hi ⟨⟨o2, o3, o4, o5, rfl⟩, e1, hl1⟩ ⟨rfl, hx⟩
    obtain ⟨kd, b, c, ys, ek, rfl, hb, hc, ry⟩ := wood_at rs hx
    have ly : ys.length = kd.2.length := by rw [ry.len, List.length_map]
    have hk := hm kd (List.mem_of_getElem? ek)
    refine g_tup2 (e1 _ _ hb) ?_
    walk_at "go"
    refine g_augL rfl ?_
    walk_at "go"
    refine g_seqTs ?_
    walk_at "go"
    refine ⟨_, rfl, ⟨ys, sqT (e1 _ _ hc)⟩, fun D hD => ?_⟩
    refine lc_mapE walk_tup (fun j _ v => ∃ m, kd.2[j]? = some m ∧ v = .str m.1) (by omega) hD (fun _ _ _ _ _ r => r) (fun H2 e => sqT (e _ _ (e1 _ _ hc))) ?_ ?_
    · rintro j y H2 H3 P N hj e ⟨rfl, hy⟩ k
      obtain ⟨m, b2, c2, em, rfl, hb2, _⟩ := mk_at ry hy
      refine g_tup2 (e _ _ (e1 _ _ hb2)) ?_
      walk_at "go"
      refine ⟨rfl, ?_⟩
      walk_at "go"
      exact k _ _ (Ex.refl _) ⟨m, em, rfl⟩
    · intro H2 acc e2 hacc hla hr2
      have ea : acc = (kd.2.map Prod.fst).map V.str := by
        refine List.ext_getElem? fun j => ?_
        cases h : acc[j]? with
        | none =>
          have := List.getElem?_eq_none_iff.1 h
          symm
          rw [List.getElem?_eq_none_iff, List.length_map, List.length_map]
          omega
        | some v =>
          obtain ⟨m, em, rfl⟩ := hr2 j v h
          rw [List.getElem?_map, List.getElem?_map, em]
          rfl
      subst ea
      have en : mkNames (wd.take (i + 1)) = mkNames (wd.take i) ++ kd.2.map Prod.fst := by
        unfold mkNames
        rw [List.take_add_one, ek, List.map_append, List.flatten_append]
        simp
      have le : (mkNames (wd.take (i + 1))).length ≤ (mkNames wd).length := by
        have : mkNames wd = mkNames (wd.take (i + 1)) ++ mkNames (wd.drop (i + 1)) := by
          unfold mkNames
          rw [← List.flatten_append, ← List.map_append, List.take_append_drop]
        rw [this, List.length_append]
        omega
      rw [en, List.length_append, List.length_map] at le
      refine g_iadd (e2 _ _ hl1) hacc (by rw [List.length_map, List.length_map, List.length_map]; omega) ?_
      walk_at "go"
      refine ⟨⟨_, _, _, _, rfl⟩, (e1.trans e2).at_new hl0, ?_⟩
      rw [upd_same, en, List.map_append]
  · rintro σ H1 ⟨⟨o2, o3, o4, o5, rfl⟩, e1, hl1⟩
    rw [lx, List.take_length] at hl1
    walk_at "go"
    exact q _ _ hl0 e1 hl1
theorem vi_is_letters_0 : Vis (defScope s_is_letters) "text" := by first | exact Or.inl (by decide +kernel) | exact Or.inr (Or.inl (by decide +kernel)) | exact Or.inr (Or.inr (by decide +kernel))
theorem lt_oneP {a b : Nat} : ((⟨#[a]⟩ : Str).cps.toList < (⟨#[b]⟩ : Str).cps.toList) ↔ a < b := by
  show ([a] < [b]) ↔ a < b
  refine ⟨fun z => ?_, fun q => List.Lex.rel q⟩
  cases z with
  | rel z => exact z
  | cons z => nomatch z
theorem ok_is_letters (T : Txt K mg) : FnOk P w K mg base (L2.CX P w) 1 T.a_is_letters T.d_is_letters ["text"] spIsLets := by
  refine T.F_is_letters.okX sc_is_letters (fun vs H Q E h => ?_) (fun cdv A outer s H vs Q E hr h => ?_)
  · obtain ⟨_, rfl, _⟩ := h
    rfl
  obtain ⟨z, rfl, hz, q⟩ := h
  refine ⟨_, (pss_cons (ps_if (PW.pt (pw_or (pt_not (pt_chain uo_le uo_le pe_int (pe_callB uk_len rfl T.z_len boot_len (pa_cons (uv 0 (hv := vi_is_letters_0)) pa_nil)) (pe_con rfl T.m_MOST_LETTERS))) (pw_or1 (pt_cmpR uo_lt (pe_lenSgn rfl rfl T.z_len rfl T.z_set (uv 0 (hv := vi_is_letters_0))) (pe_callB uk_len rfl T.z_len boot_len (pa_cons (uv 0 (hv := vi_is_letters_0)) pa_nil)) (nomark _))))) (pss_one (ps_ret pe_bl)) pss_nil)
      (pss_one (ps_ret (pe_callB (cr_all rfl) rfl T.z_all boot_all (pa_cons (pe_lc (own := [("sign", 1)]) (g := gName 1) rfl sc_is_letters.nd (ui_seq (uv 0 (hv := vi_is_letters_0))) (blkOk_by (own := [("sign", 1)]) (N := N_is_letters) (sc := defScope s_is_letters) (by decide +kernel)) (fun _ _ _ _ _ => (pg_name (i := 1) sc_is_letters.nd rfl (by first | exact Or.inl rfl | exact Or.inr rfl))) (fun _ _ _ _ _ => pts_nil) (fun _ _ _ _ _ => (pe_and (pe_chain op_le_str op_le_str pe_str (uv 1) pe_str) (pe_one (pe_cmpR op_ne (pe_callB call_ord rfl T.z_ord boot_ord (pa_cons (uv 1) pa_nil)) pe_int (nomark _)))))) pa_nil))))), ?_⟩
  have hz2 : z.length ≤ 1000000 := Nat.le_trans hz (by decide)
  have nw := new_le [] z.cps.toList
  have nw2 := new_all [] z.cps.toList
  have lz : z.cps.toList.length = z.length := by simp [Str.length]
  rw [lz] at nw nw2
  have no : ¬ LtOk z → ∀ H', Ex H H' → Q (.bl false) H' := fun c H' e => (eq_false_of_ne_true fun h => c (ltOk_iff.1 h)) ▸ q H' e
  walk_at "go"
  refine g_lenStr hz2 ?_
  walk_at "go"
  refine i_d (fun c1 => ?_) fun c1 => ?_
  · walk_at "go"
    refine i_n (fun c2 => ?_) fun c2 => ?_
    · walk_at "go"
      exact no (fun h => by have := h.most; omega) _ (Ex.refl _)
    · walk_at "go"
      refine ⟨z, rfl, by have : z.cps.size = z.length := rfl; unfold scanBound; omega, by omega, ?_⟩
      walk_at "go"
      refine g_lenStr hz2 ?_
      walk_at "go"
      refine i_d (fun c3 => ?_) fun c3 => ?_
      · walk_at "go"
        exact no (fun h => by have := nw2.2 ⟨h.nd, fun _ _ z => nomatch z⟩; omega) _ (Ex.refl _)
      · walk_at "go"
        have nd := (nw2.1 (by omega)).1
        refine g_seqSs ?_
        walk_at "go"
        refine ⟨_, rfl, fun D hD => ?_⟩
        refine lc_mapE walk_str (fun i _ v => ∃ c, z.cps.toList[i]? = some c ∧ v = .bl (decide (33 ≤ c ∧ c ≤ 126 ∧ c ≠ 37))) (by show z.length ≤ _; omega) hD (fun _ _ _ _ _ r => r) (fun _ _ => trivial) ?_ ?_
        · rintro i x H2 H3 P N hi e ⟨rfl, c, hc, rfl⟩ k
          have hc2 : z.cps.toList[i]? = some c := by simpa using hc
          have bad : ¬ (33 ≤ c ∧ c ≤ 126 ∧ c ≠ 37) → ∀ {H'}, Ex H3 H' → P (.bl false) H' := fun n {H'} e' => k _ _ e' ⟨c, hc2, by rw [decide_eq_false n]⟩
          walk_at "go"
          refine ⟨rfl, ?_⟩
          walk_at "go"
          refine ⟨_, _, rfl, rfl, ?_⟩
          walk_at "go"
          refine i_n (fun d1 => ?_) fun d1 => ?_
          · replace d1 : ¬ c < 33 := fun z => d1 (lt_oneP.2 z)
            walk_at "go"
            refine ⟨_, _, rfl, rfl, ?_⟩
            walk_at "go"
            refine i_n (fun d2 => ?_) fun d2 => ?_
            · replace d2 : ¬ 126 < c := fun z => d2 (lt_oneP.2 z)
              walk_at "go"
              refine ⟨⟨#[c]⟩, rfl, rfl, ?_⟩
              walk_at "go"
              refine k _ _ (Ex.refl _) ⟨c, hc2, ?_⟩
              congr 1
              show (!decide (V.int ((c : Nat) : Int) = V.int 37)) = _
              by_cases d3 : c = 37
              · subst d3
                decide
              · rw [decide_eq_true (show 33 ≤ c ∧ c ≤ 126 ∧ c ≠ 37 by omega), decide_eq_false fun z => d3 (by injection z with z; omega)]
                rfl
            · replace d2 : 126 < c := lt_oneP.1 d2
              walk_at "go"
              exact bad (by omega) (Ex.refl _)
          · replace d1 : c < 33 := lt_oneP.1 d1
            walk_at "go"
            exact bad (by omega) (Ex.refl _)
        · intro H2 acc e2 ha hl hr
          walk_at "go"
          have ea : acc = (z.cps.toList.map fun c => decide (33 ≤ c ∧ c ≤ 126 ∧ c ≠ 37)).map V.bl := by
            refine List.ext_getElem? fun j => ?_
            cases h : acc[j]? with
            | none =>
              have := List.getElem?_eq_none_iff.1 h
              symm
              rw [List.getElem?_eq_none_iff, List.length_map, List.length_map]
              have hz3 : z.cps.toList.length = z.cps.size := by simp
              omega
            | some v =>
              obtain ⟨c, hc, rfl⟩ := hr j v h
              rw [List.getElem?_map, List.getElem?_map, hc]
              rfl
          refine g_all (ea ▸ ha) ?_
          have ef : ((z.cps.toList.map fun c => decide (33 ≤ c ∧ c ≤ 126 ∧ c ≠ 37)).all id) = ltOk z := by
            unfold ltOk
            rw [decide_eq_true (show 1 ≤ z.length ∧ z.length ≤ 9 by omega), decide_eq_true nd, List.all_map]
            rfl
          rw [ef]
          exact q _ e2
  · walk_at "go"
    exact no (fun h => by have := h.pos; omega) _ (Ex.refl _)
theorem vi_look_item_0 : Vis (defScope s_look_item) "item" := by first | exact Or.inl (by decide +kernel) | exact Or.inr (Or.inl (by decide +kernel)) | exact Or.inr (Or.inr (by decide +kernel))
theorem vi_look_item_2 : Vis (defScope s_look_item) "counts" := by first | exact Or.inl (by decide +kernel) | exact Or.inr (Or.inl (by decide +kernel)) | exact Or.inr (Or.inr (by decide +kernel))
theorem vi_look_item_3 : Vis (defScope s_look_item) "seen" := by first | exact Or.inl (by decide +kernel) | exact Or.inr (Or.inl (by decide +kernel)) | exact Or.inr (Or.inr (by decide +kernel))
theorem vi_look_item_4 : Vis (defScope s_look_item) "part" := by first | exact Or.inl (by decide +kernel) | exact Or.inr (Or.inl (by decide +kernel)) | exact Or.inr (Or.inr (by decide +kernel))
theorem vi_look_item_5 : Vis (defScope s_look_item) "box" := by first | exact Or.inl (by decide +kernel) | exact Or.inr (Or.inl (by decide +kernel)) | exact Or.inr (Or.inr (by decide +kernel))
theorem lo_look_item_4 : Loc (defScope s_look_item) "part" := by first | exact Or.inl (by decide +kernel) | exact Or.inr (by decide +kernel)
theorem lo_look_item_5 : Loc (defScope s_look_item) "box" := by first | exact Or.inl (by decide +kernel) | exact Or.inr (by decide +kernel)
theorem ok_look_item (T : Txt K mg) : FnOk P w K mg base (L2.CX P w) 1 T.a_look_item T.d_look_item ["item", "letters", "counts", "seen"] spLookIt := by
  refine T.F_look_item.okX sc_look_item (fun vs H Q E h => ?_) (fun cdv A outer s H vs Q E hr h => ?_)
  · obtain ⟨_, _, _, _, _, _, _, rfl, _⟩ := h
    rfl
  obtain ⟨v, i, ls, o, d, own, seen, rfl, rv, ib, hls, ho, lo, hd, lsn, q1, q0⟩ := h
  refine ⟨_, (pss_cons (ps_if (ut (pe_callB uk_is rfl T.z_isinstance boot_isinstance (pa_cons (uv 0 (hv := vi_look_item_0)) (pa_cons (pe_bltn (v := .ty "str") rfl T.z_str boot_str rfl) pa_nil)))) (pss_cons (ps_if (PW.pt (pw_or (pt_cmpR op_eq (uv 0 (hv := vi_look_item_0)) pe_str (nomark _)) (pw_or1 (pt_not (ut (pe_callB (cr_all rfl) rfl T.z_all boot_all (pa_cons (pe_lc (own := [("sign", 6)]) (g := gName 6) rfl sc_look_item.nd (ui_seq (uv 0 (hv := vi_look_item_0))) (blkOk_by (own := [("sign", 6)]) (N := N_look_item) (sc := defScope s_look_item) (by decide +kernel)) (fun _ _ _ _ _ => (pg_name (i := 6) sc_look_item.nd rfl (by first | exact Or.inl rfl | exact Or.inr rfl))) (fun _ _ _ _ _ => pts_nil) (fun _ _ _ _ _ => (pe_cmpR (show OpR _ (compareOp .In) (uIn K false) from uo_in) (uv 6) (uv 1) rfl))) pa_nil))))))) (pss_one (ps_ret pe_str)) pss_nil)
      (pss_one (ps_ret pe_non))) pss_nil)
      (pss_cons (ps_asg (uv 0 (hv := vi_look_item_0)) (pg_tup rfl (pgs_cons (pg_name (i := 4) sc_look_item.nd rfl lo_look_item_4) (pgs_cons (pg_name (i := 5) sc_look_item.nd rfl lo_look_item_5) pgs_nil))))
      (pss_cons (ps_if (pt_not (pt_chain uo_le uo_lt pe_int (uv 4 (hv := vi_look_item_4)) (pe_callB uk_len rfl T.z_len boot_len (pa_cons (uv 2 (hv := vi_look_item_2)) pa_nil)))) (pss_one (ps_ret pe_str)) pss_nil)
      (pss_cons (ps_if (pt_not (pt_chain uo_le uo_lt pe_int (uv 5 (hv := vi_look_item_5)) (pe_ix ux_seq (uv 2 (hv := vi_look_item_2)) (uv 4 (hv := vi_look_item_4)) (fun _ _ => rfl)))) (pss_one (ps_ret pe_str)) pss_nil)
      (pss_cons (ps_if (pt_cmp (pc_din (hu_of hr) (uv 0 (hv := vi_look_item_0)) (uv 3 (hv := vi_look_item_3)))) (pss_one (ps_ret pe_str)) pss_nil)
      (pss_cons (ps_dput (hu_of hr) (uv 3 (hv := vi_look_item_3)) (uv 0 (hv := vi_look_item_0)) pe_bl rfl)
      (pss_one (ps_ret pe_non)))))))), ?_⟩
  have lown : (own.map V.int).length = own.length := List.length_map _
  walk_at "go"
  cases i with
  | inl s =>
    refine g_isD rv (b := true) kit_ss ?_
    cases rv.strI
    have hs : s.length ≤ 1000000 := Nat.le_trans ib.1 (by decide)
    replace q0 : txIn ls s = true → ∀ H', But d H H' → H' d = some (.dT (seenK (seen ++ bxs (.inl s)))) → Q .non H' := fun z => q0 (if_pos z)
    replace q1 : ¬ txIn ls s = true → ∀ H', Ex H H' → Q (.str "letters") H' := fun z => q1 _ (if_neg z)
    walk_at "go"
    refine i_eqS (fun c1 => ?_) fun c1 => ?_
    · walk_at "go"
      exact q1 (by unfold txIn; rw [decide_eq_false fun z => z c1]; exact Bool.false_ne_true) _ (Ex.refl _)
    walk_at "go"
    refine g_seqSs ?_
    walk_at "go"
    refine ⟨_, rfl, fun D hD => ?_⟩
    refine lc_mapE walk_str (fun i _ v => ∃ c, s.cps.toList[i]? = some c ∧ v = .bl (decide (c ∈ ls.cps.toList))) (by show s.length ≤ _; omega) hD (fun _ _ _ _ _ r => r) (fun _ _ => trivial) ?_ ?_
    · rintro i x H2 H3 P N hi e ⟨rfl, c, hc, rfl⟩ k
      walk_at "go"
      refine ⟨rfl, ?_⟩
      walk_at "go"
      refine g_inS rfl ?_
      exact k _ _ (Ex.refl _) ⟨c, by simpa using hc, rfl⟩
    · intro H2 acc e2 ha hl hr
      have ea : acc = (s.cps.toList.map fun c => decide (c ∈ ls.cps.toList)).map V.bl := by
        refine List.ext_getElem? fun j => ?_
        cases h : acc[j]? with
        | none =>
          have := List.getElem?_eq_none_iff.1 h
          symm
          rw [List.getElem?_eq_none_iff, List.length_map, List.length_map]
          have hz3 : s.cps.toList.length = s.cps.size := by simp
          omega
        | some v =>
          obtain ⟨c, hc, rfl⟩ := hr j v h
          rw [List.getElem?_map, List.getElem?_map, hc]
          rfl
      walk_at "go"
      refine g_all (ea ▸ ha) ?_
      have ef : ((s.cps.toList.map fun c => decide (c ∈ ls.cps.toList)).all id) = txIn ls s := by
        unfold txIn
        rw [decide_eq_true c1, Bool.true_and, List.all_map]
        rfl
      rw [ef]
      walk_at "go"
      refine i_nb (fun c2 => ?_) fun c2 => ?_
      · walk_at "go"
        exact q1 (by rw [c2]; decide) _ e2
      · walk_at "go"
        exact q0 c2 _ (e2.but d) (by rw [show bxs (.inl s) = [] from rfl, List.append_nil]; exact e2 _ _ hd)
  | inr b =>
    refine g_isD rv (b := false) kit_ts ?_
    obtain ⟨ba, rfl, hba⟩ := bd_rep rv
    have no1 : ¬ (0 ≤ b.1 ∧ b.1 < (own.length : Nat)) → ∀ H', Ex H H' → Q (.str "part") H' := fun z => q1 _ (if_neg z)
    walk_at "go"
    refine g_tup2 hba ?_
    walk_at "go"
    refine i_d (fun c1 => ?_) fun c1 => ?_
    · walk_at "go"
      refine i_n (fun c2 => ?_) fun c2 => ?_
      · walk_at "go"
        exact no1 (fun z => by omega) _ (Ex.refl _)
      have k1 : 0 ≤ b.1 ∧ b.1 < (own.length : Nat) := ⟨c1, by omega⟩
      have e1 : dueIt ls own seen (.inr b) = if 0 ≤ b.2 ∧ b.2 < cntAt own b.1 then if b ∈ seen then some ("twice" : Str) else none else some ("box" : Str) := if_pos k1
      rw [e1] at q0 q1
      have no2 : ¬ (0 ≤ b.2 ∧ b.2 < cntAt own b.1) → ∀ H', Ex H H' → Q (.str "box") H' := fun z => q1 _ (if_neg z)
      have ec := cnt_at k1.1 k1.2
      walk_at "go"
      refine i_d (fun c3 => ?_) fun c3 => ?_
      · walk_at "go"
        refine g_ixL ho ec ?_
        walk_at "go"
        refine i_n (fun c4 => ?_) fun c4 => ?_
        · walk_at "go"
          exact no2 (fun z => by omega) _ (Ex.refl _)
        rw [if_pos ⟨c3, c4⟩] at q0 q1
        walk_at "go"
        refine ⟨_, _, rfl, DGet.t (k := pkey b) hd hba, _, rfl, ?_⟩
        rw [seen_val]
        refine i_d (fun c5 => ?_) fun c5 => ?_
        · walk_at "go"
          exact q1 _ (if_pos c5) _ (Ex.refl _)
        rw [if_neg c5] at q0
        walk_at "go"
        have en : putK (seenK seen) (pkey b) (.bl true) = seenK (seen ++ [b]) := by
          have z := seen_val seen b
          rw [decide_eq_false c5] at z
          rw [L2.putK_new _ (Option.not_isSome_iff_eq_none.1 (by rw [z]; decide))]
          unfold seenK
          rw [List.map_append]
          rfl
        refine ⟨_, _, rfl, DPut.t (k := pkey b) hd hba (by unfold seenK; rw [List.length_map]; exact Nat.lt_of_le_of_lt lsn (by decide)), ?_⟩
        rw [en]
        walk_at "go"
        exact q0 rfl _ ((But.refl d H).upd) upd_same
      · walk_at "go"
        exact no2 (fun z => by omega) _ (Ex.refl _)
    · walk_at "go"
      exact no1 (fun z => by omega) _ (Ex.refl _)
theorem vi_law_box_0 : Vis (defScope s_law_box) "_law_script" := by first | exact Or.inl (by decide +kernel) | exact Or.inr (Or.inl (by decide +kernel)) | exact Or.inr (Or.inr (by decide +kernel))
theorem vi_law_box_1 : Vis (defScope s_law_box) "_law_k" := by first | exact Or.inl (by decide +kernel) | exact Or.inr (Or.inl (by decide +kernel)) | exact Or.inr (Or.inr (by decide +kernel))
theorem vi_law_box_2 : Vis (defScope s_law_box) "_law_cell" := by first | exact Or.inl (by decide +kernel) | exact Or.inr (Or.inl (by decide +kernel)) | exact Or.inr (Or.inr (by decide +kernel))
theorem vi_law_box_3 : Vis (defScope s_law_box) "_law_seed" := by first | exact Or.inl (by decide +kernel) | exact Or.inr (Or.inl (by decide +kernel)) | exact Or.inr (Or.inr (by decide +kernel))
theorem lo_law_box_2 : Loc (defScope s_law_box) "_law_cell" := by first | exact Or.inl (by decide +kernel) | exact Or.inr (by decide +kernel)
theorem lo_law_box_3 : Loc (defScope s_law_box) "_law_seed" := by first | exact Or.inl (by decide +kernel) | exact Or.inr (by decide +kernel)
theorem ok_law_box (T : Txt K mg) : FnOk P w K mg base (L2.CX P w) 1 T.a_law_box T.d_law_box ["_law_script", "_law_k"] (spBox K) := by
  refine T.F_law_box.okX sc_law_box (fun vs H Q E h => ?_) (fun cdv A outer s H vs Q E hr h => ?_)
  · obtain ⟨p, ns, k, rfl, _⟩ := h
    rfl
  obtain ⟨p, ns, k, rfl, hS, hl, q⟩ := h
  refine ⟨_, (pss_cons (ps_set (i := 2) sc_law_box.nd rfl lo_law_box_2 (pe_op uo_add (pe_op uo_mul pe_int (uv 1 (hv := vi_law_box_1))) pe_int))
      (C8.pss_cut (ps_if (pt_cmpR uo_lt (uv 1 (hv := vi_law_box_1)) (pe_callB uk_len rfl T.z_len boot_len (pa_cons (uv 0 (hv := vi_law_box_0)) pa_nil)) (nomark _)) (pss_one (ps_set (i := 2) sc_law_box.nd rfl lo_law_box_2 (pe_ix ux_seq (uv 0 (hv := vi_law_box_0)) (uv 1 (hv := vi_law_box_1)) (fun _ _ => rfl)))) (pss_one (ps_if (pt_cmpR uo_gt (pe_callB uk_len rfl T.z_len boot_len (pa_cons (uv 0 (hv := vi_law_box_0)) pa_nil)) pe_int (nomark _)) (pss_one (ps_set (i := 2) sc_law_box.nd rfl lo_law_box_2 (pe_op uo_add (uv 2 (hv := vi_law_box_2)) (pe_op uo_mul (pe_op uo_mod (pe_ix ux_seq (uv 0 (hv := vi_law_box_0)) (pe_op uo_mod (uv 1 (hv := vi_law_box_1)) (pe_callB uk_len rfl T.z_len boot_len (pa_cons (uv 0 (hv := vi_law_box_0)) pa_nil))) (fun _ _ => rfl)) pe_int) pe_int)))) pss_nil)))
      (pss_cons (ps_set (i := 3) sc_law_box.nd rfl lo_law_box_3 (pe_op uo_add (pe_op uo_mod (pe_op uo_add (pe_op uo_mul (pe_op uo_mod (uv 2 (hv := vi_law_box_2)) pe_int) pe_int) (pe_op uo_mul pe_int (uv 1 (hv := vi_law_box_1)))) pe_int) pe_int))
      (pss_one (ps_ret (pe_lst (pa_cons (pe_ix ux_seq (pe_lst (pa_cons pe_int (pa_cons (uv 2 (hv := vi_law_box_2)) pa_nil))) (pe_callTy uk_int rfl T.z_int boot_int (pa_cons (pe_cmpR uo_ge (uv 2 (hv := vi_law_box_2)) (pe_op uo_pow pe_int pe_int) (nomark _)) pa_nil)) (fun _ _ => rfl)) (pa_cons (uv 3 (hv := vi_law_box_3)) (pa_cons pe_int pa_nil))))))))), ?_⟩
  walk_at "go"
  refine ⟨fun σ' H' => (∃ x : Int, σ' = [some (V.ref p), some (V.int k), some (V.int x), none]) ∧ H' = H, ?_, ?_⟩
  · walk_at "go"
    refine i_d (fun c => ?_) fun c => ?_
    · walk_at "go"
      have c' : k < ns.length := by
        rw [List.length_map] at c
        omega
      refine g_ixSq hS (at_ints c') ?_
      walk_at "go"
      exact ⟨⟨_, rfl⟩, rfl⟩
    · walk_at "go"
      refine i_d (fun c => ?_) fun c => ?_
      · walk_at "go"
        have hn : (0 : Int) < ((ns.map V.int).length : Nat) := c
        have e : ((k : Int).fmod ((ns.map V.int).length : Nat)) = ((k % ns.length : Nat) : Int) := by
          rw [Int.fmod_eq_emod_of_nonneg _ (by omega), List.length_map]
          rfl
        have c' : k % ns.length < ns.length := Nat.mod_lt _ (by rw [List.length_map] at hn; omega)
        refine g_ixSq hS (by rw [e]; exact at_ints c') ?_
        walk_at "go"
        exact ⟨⟨_, rfl⟩, rfl⟩
      · walk_at "go"
        exact ⟨⟨_, rfl⟩, rfl⟩
  · rintro σ' H' ⟨⟨x, rfl⟩, rfl⟩
    walk_at "go"
    refine g_new fun a ha => ?_
    have h1 := @upd_same H' a (.lst [V.int 0, V.int x])
    walk_at "go"
    have fin : ∀ v : Int, atI [V.int 0, V.int x] (b2z (decide ((10 : Int) ^ Int.toNat 18 ≤ x))) = some (.int v) → _ := fun _ _ => True.intro
    have ev : ∃ v : Int, atI [V.int 0, V.int x] (b2z (decide ((10 : Int) ^ Int.toNat 18 ≤ x))) = some (.int v) := by
      by_cases c : (10 : Int) ^ Int.toNat 18 ≤ x
      · rw [decide_eq_true c]
        exact ⟨x, rfl⟩
      · rw [decide_eq_false c]
        exact ⟨0, rfl⟩
    obtain ⟨v, ev⟩ := ev
    refine g_ixL h1 ev ?_
    walk_at "go"
    refine g_new fun b hb => ?_
    have e1 : Ex H' (upd H' a (.lst [V.int 0, V.int x])) := Ex.new ha
    exact q _ _ (e1.free hb) (e1.trans (Ex.new hb)) ⟨_, _, _, upd_same⟩
theorem vi_law_take_0 : Vis (defScope s_law_take) "_law_box_here" := by first | exact Or.inl (by decide +kernel) | exact Or.inr (Or.inl (by decide +kernel)) | exact Or.inr (Or.inr (by decide +kernel))
theorem vi_law_take_1 : Vis (defScope s_law_take) "_law_many" := by first | exact Or.inl (by decide +kernel) | exact Or.inr (Or.inl (by decide +kernel)) | exact Or.inr (Or.inr (by decide +kernel))
theorem vi_law_take_2 : Vis (defScope s_law_take) "_law_digit" := by first | exact Or.inl (by decide +kernel) | exact Or.inr (Or.inl (by decide +kernel)) | exact Or.inr (Or.inr (by decide +kernel))
theorem vi_law_take_3 : Vis (defScope s_law_take) "_law_one" := by first | exact Or.inl (by decide +kernel) | exact Or.inr (Or.inl (by decide +kernel)) | exact Or.inr (Or.inr (by decide +kernel))
theorem lo_law_take_2 : Loc (defScope s_law_take) "_law_digit" := by first | exact Or.inl (by decide +kernel) | exact Or.inr (by decide +kernel)
theorem lo_law_take_3 : Loc (defScope s_law_take) "_law_one" := by first | exact Or.inl (by decide +kernel) | exact Or.inr (by decide +kernel)
theorem ok_law_take (T : Txt K mg) : FnOk P w K mg base (L2.CX P w) 1 T.a_law_take T.d_law_take ["_law_box_here", "_law_many"] spTake := by
  refine T.F_law_take.okX sc_law_take (fun vs H Q E h => ?_) (fun cdv A outer s H vs Q E hr h => ?_)
  · obtain ⟨p, m, rfl, _⟩ := h
    rfl
  obtain ⟨p, m, rfl, ⟨a, b, c, hp⟩, hm, hm2, q⟩ := h
  have hm0 : m ≠ 0 := by omega
  refine ⟨_, (pss_cons (ps_if (pt_cmpR uo_gt (pe_ix ux_seq (uv 0 (hv := vi_law_take_0)) pe_int (fun _ _ => rfl)) pe_int (nomark _)) (pss_cons (ps_set (i := 2) sc_law_take.nd rfl lo_law_take_2 (pe_op uo_mod (pe_ix ux_seq (uv 0 (hv := vi_law_take_0)) pe_int (fun _ _ => rfl)) (uv 1 (hv := vi_law_take_1))))
      (pss_cons (ps_asg (pe_op uo_fd (pe_ix ux_seq (uv 0 (hv := vi_law_take_0)) pe_int (fun _ _ => rfl)) (uv 1 (hv := vi_law_take_1))) (pg_sub (uv 0 (hv := vi_law_take_0)) pe_int set_list))
      (pss_one (ps_ret (uv 2 (hv := vi_law_take_2)))))) pss_nil)
      (pss_cons (ps_asg (pe_op uo_add (pe_ix ux_seq (uv 0 (hv := vi_law_take_0)) pe_int (fun _ _ => rfl)) pe_int) (pg_sub (uv 0 (hv := vi_law_take_0)) pe_int set_list))
      (pss_cons (ps_set (i := 3) sc_law_take.nd rfl lo_law_take_3 (pe_op uo_mod (pe_op uo_mul (pe_op uo_add (pe_ix ux_seq (uv 0 (hv := vi_law_take_0)) pe_int (fun _ _ => rfl)) (pe_op uo_mul pe_int (pe_ix ux_seq (uv 0 (hv := vi_law_take_0)) pe_int (fun _ _ => rfl)))) pe_int) pe_int))
      (pss_cons (ps_asg (pe_op uo_add (pe_op uo_mod (pe_op uo_add (pe_op uo_mul (uv 3 (hv := vi_law_take_3)) pe_int) pe_int) pe_int) pe_int) (pg_sub (uv 0 (hv := vi_law_take_0)) pe_int set_list))
      (pss_one (ps_ret (pe_op uo_mod (pe_op uo_fd (pe_op uo_add (pe_op uo_mul (uv 3 (hv := vi_law_take_3)) pe_int) (pe_ix ux_seq (uv 0 (hv := vi_law_take_0)) pe_int (fun _ _ => rfl))) pe_int) (uv 1 (hv := vi_law_take_1))))))))), ?_⟩
  walk_at "go"
  refine i_d (fun c1 => ?_) fun c1 => ?_
  · walk_at "go"
    refine g_i ?_ ⟨hm0, hm2⟩
    walk_at "go"
    refine g_setL hp (by rfl) ?_
    walk_at "go"
    exact q _ _ (fmod_pos hm).1 (fmod_pos hm).2 (But.upd (But.refl _ _)) ⟨_, _, _, upd_same⟩
  · walk_at "go"
    refine g_setL hp (by rfl) ?_
    have h1 : upd H p (.lst ([V.int a, V.int b, V.int c].set 2 (.int (c + 1)))) p = some (.lst [.int a, .int b, .int (c + 1)]) := upd_same
    walk_at "go"
    refine g_setL h1 (by rfl) ?_
    have h2 := @upd_same (upd H p (.lst ([V.int a, V.int b, V.int c].set 2 (.int (c + 1))))) p (.lst ([V.int a, V.int b, V.int (c + 1)].set 1 (.int ((((b + 104729 * (c + 1)) * 69623).fmod 2147483647 * 48271 + 30103).fmod 2147483629 + 1))))
    walk_at "go"
    exact q _ _ (fmod_pos hm).1 (fmod_pos hm).2 ((But.refl _ _).upd.upd) ⟨_, _, _, h2⟩
theorem vi_law_makers_0 : Vis (defScope s_law_makers) "_law_wood_here" := by first | exact Or.inl (by decide +kernel) | exact Or.inr (Or.inl (by decide +kernel)) | exact Or.inr (Or.inr (by decide +kernel))
theorem vi_law_makers_2 : Vis (defScope s_law_makers) "_law_found" := by first | exact Or.inl (by decide +kernel) | exact Or.inr (Or.inl (by decide +kernel)) | exact Or.inr (Or.inr (by decide +kernel))
theorem vi_law_makers_3 : Vis (defScope s_law_makers) "_law_k" := by first | exact Or.inl (by decide +kernel) | exact Or.inr (Or.inl (by decide +kernel)) | exact Or.inr (Or.inr (by decide +kernel))
theorem vi_law_makers_5 : Vis (defScope s_law_makers) "_law_makers_here" := by first | exact Or.inl (by decide +kernel) | exact Or.inr (Or.inl (by decide +kernel)) | exact Or.inr (Or.inr (by decide +kernel))
theorem vi_law_makers_6 : Vis (defScope s_law_makers) "_law_maker" := by first | exact Or.inl (by decide +kernel) | exact Or.inr (Or.inl (by decide +kernel)) | exact Or.inr (Or.inr (by decide +kernel))
theorem vi_law_makers_7 : Vis (defScope s_law_makers) "_law_parts" := by first | exact Or.inl (by decide +kernel) | exact Or.inr (Or.inl (by decide +kernel)) | exact Or.inr (Or.inr (by decide +kernel))
theorem lo_law_makers_1 : Loc (defScope s_law_makers) "_law_names_here" := by first | exact Or.inl (by decide +kernel) | exact Or.inr (by decide +kernel)
theorem lo_law_makers_2 : Loc (defScope s_law_makers) "_law_found" := by first | exact Or.inl (by decide +kernel) | exact Or.inr (by decide +kernel)
theorem lo_law_makers_3 : Loc (defScope s_law_makers) "_law_k" := by first | exact Or.inl (by decide +kernel) | exact Or.inr (by decide +kernel)
theorem lo_law_makers_4 : Loc (defScope s_law_makers) "_law_name" := by first | exact Or.inl (by decide +kernel) | exact Or.inr (by decide +kernel)
theorem lo_law_makers_5 : Loc (defScope s_law_makers) "_law_makers_here" := by first | exact Or.inl (by decide +kernel) | exact Or.inr (by decide +kernel)
theorem lo_law_makers_6 : Loc (defScope s_law_makers) "_law_maker" := by first | exact Or.inl (by decide +kernel) | exact Or.inr (by decide +kernel)
theorem lo_law_makers_7 : Loc (defScope s_law_makers) "_law_parts" := by first | exact Or.inl (by decide +kernel) | exact Or.inr (by decide +kernel)
theorem ok_law_makers (T : Txt K mg) : FnOk P w K mg base (L2.CX P w) 1 T.a_law_makers T.d_law_makers ["_law_wood_here"] spMakers := by
  refine T.F_law_makers.okX sc_law_makers (fun vs H Q E h => ?_) (fun cdv A outer s H vs Q E hr h => ?_)
  · obtain ⟨_, _, rfl, _⟩ := h
    rfl
  obtain ⟨wd, v, rfl, rv, ok, q⟩ := h
  refine ⟨_, (pss_cons (ps_set (i := 1) sc_law_makers.nd rfl lo_law_makers_1 (pe_lc (own := [("_law_kind", 8)]) (g := gName 8) rfl sc_law_makers.nd (ui_seq (uv 0 (hv := vi_law_makers_0))) (blkOk_by (own := [("_law_kind", 8)]) (N := N_law_makers) (sc := defScope s_law_makers) (by decide +kernel)) (fun _ _ _ _ _ => (pg_name (i := 8) sc_law_makers.nd rfl (by first | exact Or.inl rfl | exact Or.inr rfl))) (fun _ _ _ _ _ => pts_nil) (fun _ _ _ _ _ => (pe_ix (show IxR _ (uIx K) from ux_seq) (uv 8) pe_int (fun _ _ => rfl)))))
      (pss_cons (ps_set (i := 2) sc_law_makers.nd rfl lo_law_makers_2 (pe_lst pa_nil))
      (pss_cons (ps_for (passes_of rfl) rfl (ui_enum rfl T.z_enumerate (pa_cons (uv 0 (hv := vi_law_makers_0)) pa_nil)) (pg_tup rfl (pgs_cons (pg_name (i := 3) sc_law_makers.nd rfl lo_law_makers_3) (pgs_cons (pg_tup rfl (pgs_cons (pg_name (i := 4) sc_law_makers.nd rfl lo_law_makers_4) (pgs_cons (pg_name (i := 5) sc_law_makers.nd rfl lo_law_makers_5) pgs_nil))) pgs_nil))) (pss_one (ps_for (passes_of rfl) rfl (ui_seq (uv 5 (hv := vi_law_makers_5))) (pg_tup rfl (pgs_cons (pg_name (i := 6) sc_law_makers.nd rfl lo_law_makers_6) (pgs_cons (pg_name (i := 7) sc_law_makers.nd rfl lo_law_makers_7) pgs_nil))) (pss_one (ps_expr (pe_bm PySem.F.plainAttrs_list PySem.F.slot_list_append PySem.F.type_list_append mt_append (uv 2 (hv := vi_law_makers_2)) (pa_cons (pe_tup (pa_cons (uv 6 (hv := vi_law_makers_6)) (pa_cons (uv 3 (hv := vi_law_makers_3)) (pa_cons (pe_callTy uk_tup rfl T.z_tuple boot_tuple (pa_cons (pe_lc (own := [("_law_part", 9)]) (g := gName 9) rfl sc_law_makers.nd (ui_seq (uv 7 (hv := vi_law_makers_7))) (blkOk_by (own := [("_law_part", 9)]) (N := N_law_makers) (sc := defScope s_law_makers) (by decide +kernel)) (fun _ _ _ _ _ => (pg_name (i := 9) sc_law_makers.nd rfl (by first | exact Or.inl rfl | exact Or.inr rfl))) (fun _ _ _ _ _ => pts_nil) (fun _ _ _ _ _ => (show PE _ _ (tBM K "list" (rIndex K) _ _) from (pe_bm PySem.F.plainAttrs_list PySem.F.slot_list_index PySem.F.type_list_index mt_index (uv 1) (pa_cons (uv 9) pa_nil))))) pa_nil)) pa_nil)))) pa_nil)))))))
      (pss_one (ps_ret (uv 2 (hv := vi_law_makers_2))))))), ?_⟩
  obtain ⟨a, xs, rfl, ha, rs⟩ := id rv.tupI
  have lx : xs.length = wd.length := by rw [rs.len, List.length_map]
  have pk := ok.kinds
  have pm := ok.many
  walk_at "go"
  refine g_seqTs ?_
  walk_at "go"
  refine ⟨_, rfl, ⟨xs, sqT ha⟩, fun kl hkl => ?_⟩
  refine lc_mapE walk_tup (fun j _ v => ∃ s, (wd.map Prod.fst)[j]? = some s ∧ v = V.str s) (by omega) hkl (fun _ _ _ _ _ r => r) (fun H2 e => sqT (e _ _ ha)) ?_ ?_
  · rintro j y H2 H3 P N hj e ⟨rfl, hy⟩ k
    obtain ⟨kd, b, c, ys, ek, rfl, hb, hc, _⟩ := wood_at rs hy
    walk_at "go"
    refine ⟨rfl, ?_⟩
    walk_at "go"
    refine g_ixT (i := 0) (e _ _ hb) rfl ?_
    exact k _ _ (Ex.refl _) ⟨kd.1, by rw [List.getElem?_map, ek]; rfl, rfl⟩
  intro H1 acc e1 hacc hla hr2
  have ea := acc_map (xs := wd.map Prod.fst) (f := V.str) (by rw [List.length_map]; omega) hr2
  subst ea
  walk_at "go"
  refine g_new fun l hl => ?_
  walk_at "go"
  have e2 := e1.trans (Ex.new (o := .lst []) hl)
  have hl0 := e1.free hl
  have nkl : kl ≠ l := fun z => by rw [z, hl] at hacc; cases hacc
  refine g_enT ?_
  walk_at "go"
  refine ⟨_, xs, rfl, sqT (e2 _ _ ha), ?_⟩
  refine for_it walk_enumT (fun i σ H2 => (∃ o3 o4 o5 o6 o7, σ = [some (.ref a), some (.ref kl), some (.ref l), o3, o4, o5, o6, o7, none, none]) ∧ Ex H1 H2 ∧ ∃ us, H2 l = some (.lst us) ∧ Dues wd H2 (tabFrom 0 (wd.take i)) us) ⟨⟨_, _, _, _, _, rfl⟩, Ex.new hl, [], upd_same, rfl, fun j v z => by simp at z⟩ (fun i σ H2 _ h => sqT ((e1.trans h.2.1) _ _ ha)) ?_ ?_
  · rintro i x σ H2 H2' hi ⟨⟨o3, o4, o5, o6, o7, rfl⟩, e3, us, hus, hD⟩ ⟨t, y, z, rfl, ht, rfl, ey, ez⟩
    cases ey
    obtain ⟨kd, b, c, ys, ekd, rfl, hb, hc, ry⟩ := wood_at rs ez
    have ly : ys.length = kd.2.length := by rw [ry.len, List.length_map]
    have e4 := Ex.new (o := .tup [.int (i : Nat), .ref b]) ht
    refine g_tup2 upd_same ?_
    walk_at "go"
    have e33 := e3.trans e4
    have e13 := e1.trans e33
    refine g_tup2 (e13 _ _ hb) ?_
    walk_at "go"
    have us4 := e4 _ _ hus
    have hmk : ∀ m ∈ kd.2, _ := ok.mkr kd (List.mem_of_getElem? ekd)
    have sp := tab_split wd 0 i kd ekd
    rw [Nat.zero_add] at sp
    have nm2 := pm
    rw [sp, List.length_append, List.length_append, List.length_map] at nm2
    have hc3 := e13 _ _ hc
    have D0 := hD.tk e4.tk
    clear e4
    revert e33 e13 us4 hc3 D0
    generalize upd H2 t (.tup [.int (i : Nat), .ref b]) = H3
    intro e33 e13 us4 hc3 D0
    refine g_seqTs ?_
    walk_at "go"
    refine ⟨_, rfl, ⟨ys, sqT hc3⟩, ?_⟩
    refine for_it walk_tup (fun j σ H4 => (∃ o6 o7, σ = [some (.ref a), some (.ref kl), some (.ref l), some (.int (i : Nat)), some (.str kd.1), some (.ref c), o6, o7, none, none]) ∧ Ex H1 H4 ∧ ∃ us, H4 l = some (.lst us) ∧ Dues wd H4 (tabFrom 0 (wd.take i) ++ (kd.2.take j).map fun m => (i, m)) us) ⟨⟨_, _, rfl⟩, e33, us, us4, by rw [List.take_zero, List.map_nil, List.append_nil]; exact D0⟩ (fun j σ H4 _ h => sqT ((e1.trans h.2.1) _ _ hc)) ?_ ?_
    · rintro j x σ H4 H4' hj ⟨⟨o6, o7, rfl⟩, e5, us, hus, hD⟩ ⟨rfl, hx⟩
      obtain ⟨m, b2, c2, em, rfl, hb2, hc2⟩ := mk_at ry hx
      have e15 := e1.trans e5
      have hm := hmk m (List.mem_of_getElem? em)
      refine g_tup2 (e15 _ _ hb2) ?_
      walk_at "go"
      refine g_seqTs ?_
      walk_at "go"
      refine ⟨_, rfl, ⟨_, sqT (e15 _ _ hc2)⟩, fun D2 hD2 => ?_⟩
      refine lc_mapE walk_tup (fun u _ v => ∃ s, m.2[u]? = some s ∧ v = .int (kno wd s)) (by rw [List.length_map]; omega) hD2 (fun _ _ _ _ _ r => r) (fun H7 e => sqT (e _ _ (e15 _ _ hc2))) ?_ ?_
      · rintro u y H7 H8 P2 N2 hu e7 ⟨rfl, hy2⟩ k2
        rw [List.getElem?_map] at hy2
        cases es : m.2[u]? with
        | none => rw [es] at hy2; cases hy2
        | some s =>
          rw [es] at hy2
          cases hy2
          walk_at "go"
          refine ⟨rfl, ?_⟩
          walk_at "go"
          have kl7 := (e5.trans e7) _ _ hacc
          refine g_tyL kl7 ?_
          walk_at "go"
          refine g_lidx ok.knd kl7 (hm.2.2 s (List.mem_of_getElem? es)) ?_
          exact k2 _ _ (Ex.refl _) ⟨s, es, rfl⟩
      intro H7 acc2 e7 hacc2 hla2 hr3
      rw [List.length_map] at hla2
      have ea := acc_map (xs := m.2) (f := fun s => V.int (kno wd s)) hla2 hr3
      subst ea
      walk_at "go"
      refine g_tupOf hacc2 fun t2 ht2 => ?_
      have f1 := Ex.new (o := .tup (m.2.map fun s => V.int (kno wd s))) ht2
      have h2 := @upd_same H7 t2 (.tup (m.2.map fun s => V.int (kno wd s)))
      revert f1 h2
      generalize upd H7 t2 (.tup (m.2.map fun s => V.int (kno wd s))) = H8
      intro f1 h2
      walk_at "go"
      refine g_new fun t3 ht3 => ?_
      have f2 := Ex.new (o := .tup [.str m.1, .int (i : Nat), .ref t2]) ht3
      have h3 := @upd_same H8 t3 (.tup [.str m.1, .int (i : Nat), .ref t2])
      have h23 := f2 _ _ h2
      revert f2 h3 h23
      generalize upd H8 t3 (.tup [.str m.1, .int (i : Nat), .ref t2]) = H9
      intro f2 h3 h23
      have e79 := e7.trans (f1.trans f2)
      have us9 := e79 _ _ hus
      have lu := hD.1
      rw [List.length_append, List.length_map, List.length_take] at lu
      walk_at "go"
      refine g_app us9 (Nat.lt_of_le_of_lt (by omega : us.length ≤ 1000) (by decide)) ?_
      have tu := tk_put (ys := us ++ [.ref t3]) us9
      walk_at "go"
      refine ⟨⟨_, _, rfl⟩, (e5.trans e79).at_new hl, _, upd_same, ?_⟩
      rw [take_at em, List.map_append, ← List.append_assoc]
      refine (hD.tk (e79.tk.trans tu)).app ⟨rfl, fun j v hj => ?_⟩
      cases j with
      | zero =>
        cases hj
        exact ⟨(i, m), rfl, t3, t2, rfl, tu _ _ h3, tu _ _ h23⟩
      | succ j => simp at hj
    · rintro σ H4 ⟨⟨o6, o7, rfl⟩, e5, us, hus, hD⟩
      rw [ly, List.take_length] at hD
      have tt := tab_take wd 0 i kd ekd
      rw [Nat.zero_add] at tt
      exact ⟨⟨_, _, _, _, _, rfl⟩, e5, us, hus, by rw [tt]; exact hD⟩
  · rintro σ H2 ⟨⟨o3, o4, o5, o6, o7, rfl⟩, e3, us, hus, hD⟩
    rw [lx, List.take_length] at hD
    walk_at "go"
    exact q _ _ us (e1.trans e3) hus hD
theorem vi_law_boxes_left_0 : Vis (defScope s_law_boxes_left) "_law_parts" := by first | exact Or.inl (by decide +kernel) | exact Or.inr (Or.inl (by decide +kernel)) | exact Or.inr (Or.inr (by decide +kernel))
theorem vi_law_boxes_left_1 : Vis (defScope s_law_boxes_left) "_law_counts" := by first | exact Or.inl (by decide +kernel) | exact Or.inr (Or.inl (by decide +kernel)) | exact Or.inr (Or.inr (by decide +kernel))
theorem vi_law_boxes_left_2 : Vis (defScope s_law_boxes_left) "_law_left" := by first | exact Or.inl (by decide +kernel) | exact Or.inr (Or.inl (by decide +kernel)) | exact Or.inr (Or.inr (by decide +kernel))
theorem vi_law_boxes_left_4 : Vis (defScope s_law_boxes_left) "_law_part" := by first | exact Or.inl (by decide +kernel) | exact Or.inr (Or.inl (by decide +kernel)) | exact Or.inr (Or.inr (by decide +kernel))
theorem lo_law_boxes_left_2 : Loc (defScope s_law_boxes_left) "_law_left" := by first | exact Or.inl (by decide +kernel) | exact Or.inr (by decide +kernel)
theorem lo_law_boxes_left_3 : Loc (defScope s_law_boxes_left) "_law_p" := by first | exact Or.inl (by decide +kernel) | exact Or.inr (by decide +kernel)
theorem lo_law_boxes_left_4 : Loc (defScope s_law_boxes_left) "_law_part" := by first | exact Or.inl (by decide +kernel) | exact Or.inr (by decide +kernel)
theorem ok_law_boxes_left (T : Txt K mg) : FnOk P w K mg base (L2.CX P w) 1 T.a_law_boxes_left T.d_law_boxes_left ["_law_parts", "_law_counts"] spBoxesLeft := by
  refine T.F_law_boxes_left.okX sc_law_boxes_left (fun vs H Q E h => ?_) (fun cdv A outer s H vs Q E hr h => ?_)
  · obtain ⟨_, _, _, _, rfl, _⟩ := h
    rfl
  obtain ⟨t, c, ps, cs, rfl, ht, hc, l2, pin, hcs, q⟩ := h
  refine ⟨_, (pss_cons (ps_set (i := 2) sc_law_boxes_left.nd rfl lo_law_boxes_left_2 (pe_lst pa_nil))
      (pss_cons (ps_for (passes_of rfl) rfl (ui_enum rfl T.z_enumerate (pa_cons (uv 0 (hv := vi_law_boxes_left_0)) pa_nil)) (pg_tup rfl (pgs_cons (pg_name (i := 3) sc_law_boxes_left.nd rfl lo_law_boxes_left_3) (pgs_cons (pg_name (i := 4) sc_law_boxes_left.nd rfl lo_law_boxes_left_4) pgs_nil))) (pss_one (ps_expr (pe_bm PySem.F.plainAttrs_list PySem.F.slot_list_extend PySem.F.type_list_extend mt_extend (uv 2 (hv := vi_law_boxes_left_2)) (pa_cons (pe_lc (own := [("_law_b", 5)]) (g := gName 5) rfl sc_law_boxes_left.nd (pi_range1 rfl T.z_range (pa_cons (pe_ix ux_seq (uv 1 (hv := vi_law_boxes_left_1)) (uv 4 (hv := vi_law_boxes_left_4)) (fun _ _ => rfl)) pa_nil)) (blkOk_by (own := [("_law_b", 5)]) (N := N_law_boxes_left) (sc := defScope s_law_boxes_left) (by decide +kernel)) (fun _ _ _ _ _ => (pg_name (i := 5) sc_law_boxes_left.nd rfl (by first | exact Or.inl rfl | exact Or.inr rfl))) (fun _ _ _ _ _ => pts_nil) (fun _ _ _ _ _ => (pe_tup (pa_cons (uv 3) (pa_cons (uv 5) pa_nil))))) pa_nil)))))
      (pss_one (ps_ret (uv 2 (hv := vi_law_boxes_left_2)))))), ?_⟩
  have lpm : (ps.map V.int).length = ps.length := List.length_map _
  walk_at "go"
  refine g_new fun L hL => ?_
  walk_at "go"
  refine g_enT ?_
  walk_at "go"
  refine ⟨_, _, rfl, sqT (Ex.new hL _ _ ht), ?_⟩
  refine for_it walk_enumT (fun i σ H2 => (∃ o3 o4 o5, σ = [some (.ref t), some (.ref c), some (.ref L), o3, o4, o5]) ∧ Ex H H2 ∧ ∃ vs bs, H2 L = some (.lst vs) ∧ Reps H2 (bs.map bdD) vs ∧ bs.length ≤ 2 * i ∧ bs.Nodup ∧ ∀ b ∈ bs, BxIn cs ps b ∧ b.1 < (i : Nat)) ⟨⟨_, _, _, rfl⟩, Ex.new hL, [], [], upd_same, by simp only [List.map, Reps], Nat.le_refl _, List.nodup_nil, fun b z => (nomatch z)⟩ (fun i σ H2 _ h => sqT (h.2.1 _ _ ht)) ?_ ?_
  · rintro i x σ H2 H2' hi ⟨⟨o3, o4, o5, rfl⟩, e2, vs, bs, hL2, rb, lb, nb, hbs⟩ ⟨Tp, y, z, rfl, hTp, rfl, hy, hz⟩
    cases hy
    replace hz : (ps.map V.int)[i]? = some z := hz
    rw [List.getElem?_map] at hz
    cases ep : ps[i]? with
    | none => rw [ep] at hz; cases hz
    | some pn =>
    rw [ep] at hz
    cases hz
    have li := (List.getElem?_eq_some_iff.1 ep).1
    obtain ⟨p0, p1⟩ := pin pn (List.mem_of_getElem? ep)
    have epn : ps.getD i 0 = pn := by rw [List.getD_eq_getElem?_getD, ep]; rfl
    have ecn := cnt_at p0 p1
    have hcn : 0 ≤ cntAt cs pn ∧ cntAt cs pn ≤ 2 := by
      unfold cntAt
      rw [List.getD_eq_getElem?_getD, List.getElem?_eq_getElem (by omega)]
      exact hcs _ (List.getElem_mem _)
    obtain ⟨n, en⟩ := Int.eq_ofNat_of_zero_le hcn.1
    rw [en] at ecn hcn
    have e3 := Ex.new (o := .tup [.int (i : Nat), .int pn]) hTp
    refine g_tup2 upd_same ?_
    revert e3
    generalize upd H2 Tp (.tup [.int (i : Nat), .int pn]) = H3
    intro e3
    walk_at "go"
    refine g_tyL (e3 _ _ hL2) ?_
    walk_at "go"
    refine g_ixT (e3 _ _ (e2 _ _ hc)) ecn ?_
    walk_at "go"
    refine ⟨_, rfl, by omega, by omega, fun D hD => ?_⟩
    rw [Int.toNat_natCast]
    refine lc_mapE walk_range (fun j H8 v => ∃ m, (List.range n)[j]? = some m ∧ Rep H8 (bdD ((i : Nat), (m : Nat))) v) (by omega) hD (fun _ _ _ _ t r => r.elim fun x z => ⟨x, z.1, z.2.tk t (bd_hard _)⟩) (fun _ _ => trivial) ?_ ?_
    · rintro j x H8 H9 P N hj e8 ⟨rfl, rfl⟩ k
      walk_at "go"
      refine ⟨rfl, ?_⟩
      walk_at "go"
      refine g_new fun a ha => ?_
      exact k _ _ (Ex.new ha) ⟨j, List.getElem?_range hj, Rep.bd (b := ((i : Nat), (j : Nat))) (by
        rw [upd_same]
        show some (HO.tup [V.int (i : Nat), V.int (0 + (j : Nat))]) = _
        rw [Int.zero_add])⟩
    intro H5 acc e5 hacc hla hr2
    have ra : Reps H5 (((List.range n).map fun m => (((i : Nat) : Int), ((m : Nat) : Int))).map bdD) acc := by
      rw [List.map_map]
      exact reps_at (f := bdD ∘ fun m : Nat => (((i : Nat) : Int), ((m : Nat) : Int))) (by rw [hla, List.length_range]) hr2
    have hL5 := e5 _ _ (e3 _ _ hL2)
    have lvs : vs.length = bs.length := by rw [rb.len, List.length_map]
    walk_at "go"
    refine g_ext hL5 hacc (by omega) ?_
    have tu := tk_put (ys := vs ++ acc) hL5
    walk_at "go"
    refine ⟨⟨_, _, _, rfl⟩, (e2.trans (e3.trans e5)).at_new hL, vs ++ acc, bs ++ (List.range n).map (fun m => (((i : Nat) : Int), ((m : Nat) : Int))), upd_same, ?_, ?_, ?_, fun b hb => ?_⟩
    · rw [List.map_append]
      exact ((rb.ex (e3.trans e5)).tkm tu bd_hard).append (ra.tkm tu bd_hard)
    · rw [List.length_append, List.length_map, List.length_range]
      omega
    · refine List.nodup_append.2 ⟨nb, ?_, fun x hx y hy => ?_⟩
      · refine List.pairwise_map.2 (List.Pairwise.imp (fun {a b} h z => h ?_) List.nodup_range)
        have := congrArg Prod.snd z
        exact Int.ofNat_inj.1 this
      · obtain ⟨m, _, rfl⟩ := List.mem_map.1 hy
        intro z
        have := (hbs x hx).2
        rw [z] at this
        exact absurd this (Int.lt_irrefl _)
    · rcases List.mem_append.1 hb with hb | hb
      · exact ⟨(hbs b hb).1, by have := (hbs b hb).2; omega⟩
      · obtain ⟨m, hm, rfl⟩ := List.mem_map.1 hb
        have lm := List.mem_range.1 hm
        refine ⟨⟨⟨Int.natCast_nonneg _, Int.ofNat_lt.2 li⟩, Int.natCast_nonneg _, ?_⟩, Int.ofNat_lt.2 (Nat.lt_succ_self i)⟩
        show ((m : Nat) : Int) < cntAt cs (ps.getD ((i : Nat) : Int).toNat 0)
        rw [Int.toNat_natCast, epn, en]
        omega
  · rintro σ H2 ⟨⟨o3, o4, o5, rfl⟩, e2, vs, bs, hL2, rb, lb, nb, hbs⟩
    walk_at "go"
    exact q _ _ _ _ hL e2 hL2 rb (by omega) nb fun b h => (hbs b h).1
theorem vi_law_wrong_item_0 : Vis (defScope s_law_wrong_item) "_law_item" := by first | exact Or.inl (by decide +kernel) | exact Or.inr (Or.inl (by decide +kernel)) | exact Or.inr (Or.inr (by decide +kernel))
theorem vi_law_wrong_item_2 : Vis (defScope s_law_wrong_item) "_law_own" := by first | exact Or.inl (by decide +kernel) | exact Or.inr (Or.inl (by decide +kernel)) | exact Or.inr (Or.inr (by decide +kernel))
theorem vi_law_wrong_item_3 : Vis (defScope s_law_wrong_item) "_law_seen" := by first | exact Or.inl (by decide +kernel) | exact Or.inr (Or.inl (by decide +kernel)) | exact Or.inr (Or.inr (by decide +kernel))
theorem vi_law_wrong_item_4 : Vis (defScope s_law_wrong_item) "_law_part" := by first | exact Or.inl (by decide +kernel) | exact Or.inr (Or.inl (by decide +kernel)) | exact Or.inr (Or.inr (by decide +kernel))
theorem vi_law_wrong_item_5 : Vis (defScope s_law_wrong_item) "_law_at" := by first | exact Or.inl (by decide +kernel) | exact Or.inr (Or.inl (by decide +kernel)) | exact Or.inr (Or.inr (by decide +kernel))
theorem lo_law_wrong_item_4 : Loc (defScope s_law_wrong_item) "_law_part" := by first | exact Or.inl (by decide +kernel) | exact Or.inr (by decide +kernel)
theorem lo_law_wrong_item_5 : Loc (defScope s_law_wrong_item) "_law_at" := by first | exact Or.inl (by decide +kernel) | exact Or.inr (by decide +kernel)
theorem ok_law_wrong_item (T : Txt K mg) : FnOk P w K mg base (L2.CX P w) 1 T.a_law_wrong_item T.d_law_wrong_item ["_law_item", "_law_letters_here", "_law_own", "_law_seen"] spWrongIt := by
  refine T.F_law_wrong_item.okX sc_law_wrong_item (fun vs H Q E h => ?_) (fun cdv A outer s H vs Q E hr h => ?_)
  · obtain ⟨_, _, _, _, _, _, _, _, rfl, _⟩ := h
    rfl
  obtain ⟨v, i, ls, o, l, own, S, svs, rfl, rv, ib, hls, ho, lo, hl, rS, lS, bS, q⟩ := h
  refine ⟨_, (pss_cons (ps_if (ut (pe_callB uk_is rfl T.z_isinstance boot_isinstance (pa_cons (uv 0 (hv := vi_law_wrong_item_0)) (pa_cons (pe_bltn (v := .ty "str") rfl T.z_str boot_str rfl) pa_nil)))) (pss_one (ps_ret (pe_ix ux_seq (pe_lst (pa_cons pe_str (pa_cons pe_str pa_nil))) (pe_callTy uk_int rfl T.z_int boot_int (pa_cons (pe_or (pe_cmpR op_eq (uv 0 (hv := vi_law_wrong_item_0)) pe_str (nomark _)) (pe_one (pe_cmpR (op_neD hr.units) (pe_lc (own := [("_law_sign", 6)]) (g := gName 6) rfl sc_law_wrong_item.nd (ui_seq (uv 0 (hv := vi_law_wrong_item_0))) (blkOk_by (own := [("_law_sign", 6)]) (N := N_law_wrong_item) (sc := defScope s_law_wrong_item) (by decide +kernel)) (fun _ _ _ _ _ => (pg_name (i := 6) sc_law_wrong_item.nd rfl (by first | exact Or.inl rfl | exact Or.inr rfl))) (fun _ _ _ _ _ => (pts_one (pt_cmpR (show OpR _ (compareOp .NotIn) (uIn K true) from uo_notIn) (uv 6) (uv 1) rfl))) (fun _ _ _ _ _ => (uv 6))) (pe_lst pa_nil) (nomark _)))) pa_nil)) (fun _ _ => rfl)))) pss_nil)
      (pss_cons (ps_asg (uv 0 (hv := vi_law_wrong_item_0)) (pg_tup rfl (pgs_cons (pg_name (i := 4) sc_law_wrong_item.nd rfl lo_law_wrong_item_4) (pgs_cons (pg_name (i := 5) sc_law_wrong_item.nd rfl lo_law_wrong_item_5) pgs_nil))))
      (pss_cons (ps_if (PW.pt (pw_or (pt_cmpR uo_lt (uv 4 (hv := vi_law_wrong_item_4)) pe_int (nomark _)) (pw_or1 (pt_cmpR uo_ge (uv 4 (hv := vi_law_wrong_item_4)) (pe_callB uk_len rfl T.z_len boot_len (pa_cons (uv 2 (hv := vi_law_wrong_item_2)) pa_nil)) (nomark _))))) (pss_one (ps_ret pe_str)) pss_nil)
      (pss_cons (ps_if (PW.pt (pw_or (pt_cmpR uo_lt (uv 5 (hv := vi_law_wrong_item_5)) pe_int (nomark _)) (pw_or1 (pt_cmpR uo_ge (uv 5 (hv := vi_law_wrong_item_5)) (pe_ix ux_seq (uv 2 (hv := vi_law_wrong_item_2)) (uv 4 (hv := vi_law_wrong_item_4)) (fun _ _ => rfl)) (nomark _))))) (pss_one (ps_ret pe_str)) pss_nil)
      (pss_one (ps_ret (pe_ix ux_seq (pe_lst (pa_cons pe_str (pa_cons pe_str pa_nil))) (pe_callTy uk_int rfl T.z_int boot_int (pa_cons (pe_cmpR (op_inD (u65 hr)) (uv 0 (hv := vi_law_wrong_item_0)) (uv 3 (hv := vi_law_wrong_item_3)) rfl) pa_nil)) (fun _ _ => rfl)))))))), ?_⟩
  have lown : (own.map V.int).length = own.length := List.length_map _
  walk_at "go"
  cases i with
  | inl s =>
    refine g_isD rv (b := true) kit_ss ?_
    cases rv.strI
    have hs : s.length ≤ 1000000 := Nat.le_trans ib.1 (by decide)
    walk_at "go"
    refine g_new fun p hp => ?_
    have e0 := Ex.new (o := .lst [.str "", .str "letters"]) hp
    have hp0 := @upd_same H p (.lst [.str "", .str "letters"])
    revert e0 hp0
    generalize upd H p (.lst [.str "", .str "letters"]) = H1
    intro e0 hp0
    have yes : txIn ls s = true → ∀ H', Ex H H' → Q (.str "") H' := fun h H' e => by
      have z := q H' e
      rw [show dueIt ls own (S.flatMap bxs) (.inl s) = none from if_pos h] at z
      exact z
    have no : txIn ls s = false → ∀ H', Ex H H' → Q (.str "letters") H' := fun h H' e => by
      have z := q H' e
      rw [show dueIt ls own (S.flatMap bxs) (.inl s) = some ("letters" : Str) from if_neg (by rw [h]; exact Bool.false_ne_true)] at z
      exact z
    walk_at "go"
    refine i_eqS (fun c1 => ?_) fun c1 => ?_
    · walk_at "go"
      (try refine g_ixL hp0 (show atI _ (b2z true) = some (V.str "letters") from rfl) ?_)
      (try walk_at "go")
      exact no (by unfold txIn; rw [decide_eq_false fun z => z c1]; rfl) _ e0
    walk_at "go"
    refine g_seqSs ?_
    walk_at "go"
    refine ⟨_, rfl, fun D hD => ?_⟩
    refine lc_it walk_str (fun i H2 => Ex H1 H2 ∧ ∃ ns : List Nat, H2 D = some (.lst (ns.map fun c => V.str (one c))) ∧ ns.length ≤ i ∧ (∀ c ∈ ns, c ∈ s.cps.toList) ∧ ns.isEmpty = (s.cps.toList.take i).all fun c => decide (c ∈ ls.cps.toList)) ⟨Ex.new hD, [], upd_same, Nat.le_refl _, (fun c h => nomatch h), rfl⟩ (fun i H2 _ h => trivial) ?_ ?_
    · rintro i x H2 H2' hi ⟨e2, ns, hns, lns, mns, en⟩ ⟨rfl, c, hc, rfl⟩
      have hc2 : s.cps.toList[i]? = some c := by simpa using hc
      have hi2 : i < s.length := hi
      have ib1 := ib.1
      have lz : (ns.map fun c => V.str (one c)).length < sizeLine := Nat.lt_of_le_of_lt (by rw [List.length_map]; omega : (ns.map fun c => V.str (one c)).length ≤ 1000) (by decide)
      walk_at "go"
      refine ⟨rfl, ?_⟩
      walk_at "go"
      refine g_inSn rfl ?_
      walk_at "go"
      refine i_n (fun k1 => ?_) fun k1 => ?_
      · have k2 : ¬ c ∈ ls.cps.toList := k1
        walk_at "go"
        refine ⟨_, hns, lz, e2.at_new hD, ns ++ [c], by rw [upd_same, List.map_append]; rfl, by rw [List.length_append]; exact Nat.succ_le_succ lns, fun d hd => ?_, by rw [take_at hc2, all_snoc, empty_snoc, decide_eq_false k2, Bool.and_false]⟩
        rcases List.mem_append.1 hd with hd | hd
        · exact mns d hd
        · rw [List.mem_singleton.1 hd]
          exact List.mem_of_getElem? hc2
      · have k2 : c ∈ ls.cps.toList := k1
        exact ⟨e2, ns, hns, by omega, mns, by rw [en, take_at hc2, all_snoc, decide_eq_true k2, Bool.and_true]⟩
    rintro H2 ⟨e2, ns, hns, lns, mns, en⟩
    rw [show s.cps.size = s.cps.toList.length by simp, List.take_length] at en
    walk_at "go"
    refine g_new fun nl hnl => ?_
    have e3 := Ex.new (o := .lst []) hnl
    refine g_neNil (e3 _ _ hns) upd_same (fun x hx => ?_) ?_
    · obtain ⟨c, hc, rfl⟩ := List.mem_map.1 hx
      exact dpok_str fun d hd => by
        have : d = c := by simpa [one] using hd
        rw [this]
        exact ib.2 c (mns c hc)
    have e03 := e0.trans (e2.trans e3)
    have hp3 := e3 _ _ (e2 _ _ hp0)
    revert e03 hp3
    generalize upd H2 nl (.lst []) = H3
    intro e03 hp3
    have ef : txIn ls s = (ns.isEmpty) := by
      unfold txIn
      rw [decide_eq_true c1, en]
      rfl
    rw [List.isEmpty_map, ← ef]
    cases ht : txIn ls s with
    | true =>
      walk_at "go"
      (try refine g_ixL hp3 (show atI _ (b2z (!true)) = some (V.str "") from rfl) ?_)
      (try walk_at "go")
      exact yes ht _ e03
    | false =>
      walk_at "go"
      (try refine g_ixL hp3 (show atI _ (b2z (!false)) = some (V.str "letters") from rfl) ?_)
      (try walk_at "go")
      exact no ht _ e03
  | inr b =>
    refine g_isD rv (b := false) kit_ts ?_
    obtain ⟨ba, rfl, hba⟩ := bd_rep rv
    have no : ∀ x, dueIt ls own (S.flatMap bxs) (.inr b) = some x → ∀ H', Ex H H' → Q (.str x) H' := fun x hx H' e => by
      have z := q H' e
      rw [hx] at z
      exact z
    have no1 : ¬ (0 ≤ b.1 ∧ b.1 < (own.length : Nat)) → ∀ H', Ex H H' → Q (.str "part") H' := fun z => no _ (if_neg z)
    walk_at "go"
    refine g_tup2 hba ?_
    walk_at "go"
    refine i_d (fun c1 => ?_) fun c1 => ?_
    · walk_at "go"
      exact no1 (fun z => by omega) _ (Ex.refl _)
    walk_at "go"
    refine i_d (fun c2 => ?_) fun c2 => ?_
    · walk_at "go"
      exact no1 (fun z => by omega) _ (Ex.refl _)
    have k1 : 0 ≤ b.1 ∧ b.1 < (own.length : Nat) := ⟨by omega, by omega⟩
    have e1 : dueIt ls own (S.flatMap bxs) (.inr b) = if 0 ≤ b.2 ∧ b.2 < cntAt own b.1 then if b ∈ S.flatMap bxs then some ("twice" : Str) else none else some ("box" : Str) := if_pos k1
    have no2 : ¬ (0 ≤ b.2 ∧ b.2 < cntAt own b.1) → ∀ H', Ex H H' → Q (.str "box") H' := fun z => no _ (e1.trans (if_neg z))
    have ec := cnt_at k1.1 k1.2
    walk_at "go"
    refine i_d (fun c3 => ?_) fun c3 => ?_
    · walk_at "go"
      exact no2 (fun z => by omega) _ (Ex.refl _)
    walk_at "go"
    refine g_ixL ho ec ?_
    walk_at "go"
    refine i_d (fun c4 => ?_) fun c4 => ?_
    · walk_at "go"
      exact no2 (fun z => by omega) _ (Ex.refl _)
    rw [if_pos ⟨by omega, by omega⟩] at e1
    walk_at "go"
    refine g_new fun p hp => ?_
    have e0 := Ex.new (o := .lst [.str "", .str "twice"]) hp
    have hp0 := @upd_same H p (.lst [.str "", .str "twice"])
    revert e0 hp0
    generalize upd H p (.lst [.str "", .str "twice"]) = H1
    intro e0 hp0
    walk_at "go"
    refine g_inIt (e0 _ _ hl) (rS.ex e0) (rv.ex e0) bS ib ?_
    rw [any_bxs]
    by_cases c5 : b ∈ S.flatMap bxs
    · rw [decide_eq_true c5]
      walk_at "go"
      (try refine g_ixL hp0 (show atI _ (b2z true) = some (V.str "twice") from rfl) ?_)
      (try walk_at "go")
      exact no _ (e1.trans (if_pos c5)) _ e0
    · rw [decide_eq_false c5]
      walk_at "go"
      (try refine g_ixL hp0 (show atI _ (b2z false) = some (V.str "") from rfl) ?_)
      (try walk_at "go")
      have z := q _ e0
      rw [e1, if_neg c5] at z
      exact z
theorem vi_law_exchanged_0 : Vis (defScope s_law_exchanged) "_law_some" := by first | exact Or.inl (by decide +kernel) | exact Or.inr (Or.inl (by decide +kernel)) | exact Or.inr (Or.inr (by decide +kernel))
theorem vi_law_exchanged_1 : Vis (defScope s_law_exchanged) "_law_at" := by first | exact Or.inl (by decide +kernel) | exact Or.inr (Or.inl (by decide +kernel)) | exact Or.inr (Or.inr (by decide +kernel))
theorem vi_law_exchanged_2 : Vis (defScope s_law_exchanged) "_law_things" := by first | exact Or.inl (by decide +kernel) | exact Or.inr (Or.inl (by decide +kernel)) | exact Or.inr (Or.inr (by decide +kernel))
theorem ok_law_exchanged (T : Txt K mg) : FnOk P w K mg base (L2.CX P w) 1 T.a_law_exchanged T.d_law_exchanged ["_law_some", "_law_at", "_law_things"] spExch := by
  refine T.F_law_exchanged.okX sc_law_exchanged (fun vs H Q E h => ?_) (fun cdv A outer s H vs Q E hr h => ?_)
  · obtain ⟨_, _, _, _, _, rfl, _⟩ := h
    rfl
  obtain ⟨a, l, xs, ys, i, rfl, ha, hl, i0, i1, lx, ly, q⟩ := h
  refine ⟨_, (pss_one (ps_ret (pe_op uo_add (pe_op uo_add (pe_slice us_sl (uv 0 (hv := vi_law_exchanged_0)) po_none (po_some (uv 1 (hv := vi_law_exchanged_1)))) (pe_callTy uk_tup rfl T.z_tuple boot_tuple (pa_cons (uv 2 (hv := vi_law_exchanged_2)) pa_nil))) (pe_slice us_sl (uv 0 (hv := vi_law_exchanged_0)) (po_some (pe_op uo_add (uv 1 (hv := vi_law_exchanged_1)) pe_int)) po_none)))), ?_⟩
  have l1 := (cutV_len (xs := xs) i0).1
  have l2 := (cutV_len (xs := xs) (i := i + 1) (by omega)).2
  have t1 : cutV xs none (some i) = xs.take i.toNat := cutV_take i0 i1
  have t2 : cutV xs (some (i + 1)) none = xs.drop (i.toNat + 1) := by
    by_cases c : i + 1 ≤ (xs.length : Nat)
    · rw [cutV_drop (by omega) c]
      congr 1
      omega
    · rw [List.drop_eq_nil_of_le (by omega)]
      exact List.eq_nil_of_length_eq_zero (by omega)
  walk_at "go"
  refine g_slT ha fun p1 H1 e1 h1 => ?_
  walk_at "go"
  refine g_tupOf (e1 _ _ hl) fun p2 hp2 => ?_
  have e2 := Ex.new (o := .tup ys) hp2
  rw [t1] at h1 l1
  refine g_catT (e2 _ _ h1) upd_same (by omega) fun p3 H3 e3 h3 => ?_
  have e13 := e1.trans (e2.trans e3)
  walk_at "go"
  refine g_slT (e13 _ _ ha) fun p4 H4 e4 h4 => ?_
  rw [t2] at h4 l2
  refine g_catT (e4 _ _ h3) h4 (by rw [List.length_append]; omega) fun p5 H5 e5 h5 => ?_
  exact q _ _ (e13.trans (e4.trans e5)) h5
theorem vi_maker_table_0 : Vis (defScope s_maker_table) "wood" := by first | exact Or.inl (by decide +kernel) | exact Or.inr (Or.inl (by decide +kernel)) | exact Or.inr (Or.inr (by decide +kernel))
theorem vi_maker_table_2 : Vis (defScope s_maker_table) "found" := by first | exact Or.inl (by decide +kernel) | exact Or.inr (Or.inl (by decide +kernel)) | exact Or.inr (Or.inr (by decide +kernel))
theorem vi_maker_table_3 : Vis (defScope s_maker_table) "number" := by first | exact Or.inl (by decide +kernel) | exact Or.inr (Or.inl (by decide +kernel)) | exact Or.inr (Or.inr (by decide +kernel))
theorem vi_maker_table_5 : Vis (defScope s_maker_table) "makers" := by first | exact Or.inl (by decide +kernel) | exact Or.inr (Or.inl (by decide +kernel)) | exact Or.inr (Or.inr (by decide +kernel))
theorem vi_maker_table_6 : Vis (defScope s_maker_table) "name" := by first | exact Or.inl (by decide +kernel) | exact Or.inr (Or.inl (by decide +kernel)) | exact Or.inr (Or.inr (by decide +kernel))
theorem vi_maker_table_7 : Vis (defScope s_maker_table) "parts" := by first | exact Or.inl (by decide +kernel) | exact Or.inr (Or.inl (by decide +kernel)) | exact Or.inr (Or.inr (by decide +kernel))
theorem lo_maker_table_1 : Loc (defScope s_maker_table) "kinds" := by first | exact Or.inl (by decide +kernel) | exact Or.inr (by decide +kernel)
theorem lo_maker_table_2 : Loc (defScope s_maker_table) "found" := by first | exact Or.inl (by decide +kernel) | exact Or.inr (by decide +kernel)
theorem lo_maker_table_3 : Loc (defScope s_maker_table) "number" := by first | exact Or.inl (by decide +kernel) | exact Or.inr (by decide +kernel)
theorem lo_maker_table_4 : Loc (defScope s_maker_table) "kind" := by first | exact Or.inl (by decide +kernel) | exact Or.inr (by decide +kernel)
theorem lo_maker_table_5 : Loc (defScope s_maker_table) "makers" := by first | exact Or.inl (by decide +kernel) | exact Or.inr (by decide +kernel)
theorem lo_maker_table_6 : Loc (defScope s_maker_table) "name" := by first | exact Or.inl (by decide +kernel) | exact Or.inr (by decide +kernel)
theorem lo_maker_table_7 : Loc (defScope s_maker_table) "parts" := by first | exact Or.inl (by decide +kernel) | exact Or.inr (by decide +kernel)
theorem ok_maker_table (T : Txt K mg) : FnOk P w K mg base (L2.CX P w) 2 T.a_maker_table T.d_maker_table ["wood"] spTable := by
  refine T.F_maker_table.okX sc_maker_table (fun vs H Q E h => ?_) (fun cdv A outer s H vs Q E hr h => ?_)
  · obtain ⟨_, _, rfl, _⟩ := h
    rfl
  obtain ⟨wd, v, rfl, rv, pre, q⟩ := h
  refine ⟨_, (pss_cons (ps_set (i := 1) sc_maker_table.nd rfl lo_maker_table_1 (pe_callD (ok_kinds_by_name T) (hr.mono (by decide)) rfl T.m_kinds_by_name T.F_kinds_by_name.kp T.b_kinds_by_name .nil (fun σ => passAt (takes_of rfl rfl rfl rfl) σ) (pa_cons (uv 0 (hv := vi_maker_table_0)) pa_nil)))
      (pss_cons (ps_set (i := 2) sc_maker_table.nd rfl lo_maker_table_2 pe_dnewK)
      (pss_cons (ps_for (passes_of rfl) rfl (ui_enum rfl T.z_enumerate (pa_cons (uv 0 (hv := vi_maker_table_0)) pa_nil)) (pg_tup rfl (pgs_cons (pg_name (i := 3) sc_maker_table.nd rfl lo_maker_table_3) (pgs_cons (pg_tup rfl (pgs_cons (pg_name (i := 4) sc_maker_table.nd rfl lo_maker_table_4) (pgs_cons (pg_name (i := 5) sc_maker_table.nd rfl lo_maker_table_5) pgs_nil))) pgs_nil))) (pss_one (ps_for (passes_of rfl) rfl (ui_seq (uv 5 (hv := vi_maker_table_5))) (pg_tup rfl (pgs_cons (pg_name (i := 6) sc_maker_table.nd rfl lo_maker_table_6) (pgs_cons (pg_name (i := 7) sc_maker_table.nd rfl lo_maker_table_7) pgs_nil))) (pss_one (ps_dput (hu_of hr) (uv 2 (hv := vi_maker_table_2)) (uv 6 (hv := vi_maker_table_6)) (pe_tup (pa_cons (uv 3 (hv := vi_maker_table_3)) (pa_cons (pe_callTy uk_tup rfl T.z_tuple boot_tuple (pa_cons (pe_lc (own := [("part", 8)]) (g := gName 8) rfl sc_maker_table.nd (ui_seq (uv 7 (hv := vi_maker_table_7))) (blkOk_by (own := [("part", 8)]) (N := N_maker_table) (sc := defScope s_maker_table) (by decide +kernel)) (fun _ _ _ _ _ => (pg_name (i := 8) sc_maker_table.nd rfl (by first | exact Or.inl rfl | exact Or.inr rfl))) (fun _ _ _ _ _ => pts_nil) (fun _ _ _ _ _ => (pe_dget (hu_of hr) (uv 1) (uv 8) (fun _ _ => rfl)))) pa_nil)) pa_nil))) rfl)))))
      (pss_one (ps_ret (uv 2 (hv := vi_maker_table_2))))))), ?_⟩
  obtain ⟨a, xs, rfl, ha, rs⟩ := id rv.tupI
  have lx : xs.length = wd.length := by rw [rs.len, List.length_map]
  have pw := pre.wide
  have pm := pre.many
  walk_at "go"
  refine ⟨wd, _, rfl, rv, pre.wide, fun dk H1 _ e1 hk => ?_⟩
  walk_at "go"
  refine fun d hd => ?_
  have e2 := e1.trans (Ex.new (o := .dK []) hd)
  have k2 := Ex.new (o := .dK []) hd _ _ hk
  have nkd : dk ≠ d := fun z => by rw [z, hd] at hk; cases hk
  walk_at "go"
  refine g_enT ?_
  walk_at "go"
  refine ⟨_, xs, rfl, sqT (e2 _ _ ha), ?_⟩
  refine for_it walk_enumT (fun i σ H2 => (∃ o3 o4 o5 o6 o7 o8, σ = [some (.ref a), some (.ref dk), some (.ref d), o3, o4, o5, o6, o7, o8]) ∧ Ex H1 H2 ∧ ∃ kvs, H2 d = some (.dK kvs) ∧ TabOk wd H2 kvs (tabFrom 0 (wd.take i))) ⟨⟨none, none, none, none, none, none, rfl⟩, Ex.new hd, [], upd_same, Nat.le_refl _, fun e z => by cases z⟩ (fun i σ H2 _ h => sqT ((e1.trans h.2.1) _ _ ha)) ?_ ?_
  · rintro i x σ H2 H2' hi ⟨⟨o3, o4, o5, o6, o7, o8, rfl⟩, e3, kvs, hkv, hT⟩ ⟨t, y, z, rfl, ht, rfl, ey, ez⟩
    cases ey
    obtain ⟨kd, b, c, ys, ek, rfl, hb, hc, ry⟩ := wood_at rs ez
    have ly : ys.length = kd.2.length := by rw [ry.len, List.length_map]
    have e4 := Ex.new (o := .tup [.int (i : Nat), .ref b]) ht
    refine g_tup2 upd_same ?_
    walk_at "go"
    have e13 := e1.trans (e3.trans e4)
    have e33 := e3.trans e4
    refine g_tup2 (e13 _ _ hb) ?_
    walk_at "go"
    refine g_seqTs ?_
    walk_at "go"
    refine ⟨_, rfl, ⟨ys, sqT (e13 _ _ hc)⟩, ?_⟩
    have sp := tab_split wd 0 i kd ek
    rw [Nat.zero_add] at sp
    have ndd := pre.nd
    rw [sp] at ndd
    have nm2 := pm
    rw [sp, List.length_append, List.length_append, List.length_map] at nm2
    refine for_it walk_tup (fun j σ H3 => (∃ o6 o7 o8, σ = [some (.ref a), some (.ref dk), some (.ref d), some (.int (i : Nat)), some (.str kd.1), some (.ref c), o6, o7, o8]) ∧ Ex H1 H3 ∧ ∃ kvs, H3 d = some (.dK kvs) ∧ TabOk wd H3 kvs (tabFrom 0 (wd.take i) ++ (kd.2.take j).map fun m => (i, m))) ⟨⟨_, _, _, rfl⟩, e33, kvs, e4 _ _ hkv, by rw [List.take_zero, List.map_nil, List.append_nil]; exact hT.tk e4.tk⟩ (fun j σ H3 _ h => sqT ((e1.trans h.2.1) _ _ hc)) ?_ ?_
    · rintro j x σ H3 H3' hj ⟨⟨o6, o7, o8, rfl⟩, e5, kvs, hkv, hT⟩ ⟨rfl, hx⟩
      obtain ⟨m, b2, c2, em, rfl, hb2, hc2⟩ := mk_at ry hx
      have e15 := e1.trans e5
      refine g_tup2 (e15 _ _ hb2) ?_
      walk_at "go"
      refine g_seqTs ?_
      walk_at "go"
      have hm := pre.parts kd (List.mem_of_getElem? ek) m (List.mem_of_getElem? em)
      refine ⟨_, rfl, ⟨_, sqT (e15 _ _ hc2)⟩, fun D hD => ?_⟩
      refine lc_mapE walk_tup (fun u _ v => ∃ s, m.2[u]? = some s ∧ v = .int (kno wd s)) (by rw [List.length_map]; omega) hD (fun _ _ _ _ _ r => r) (fun H4 e => sqT (e _ _ (e15 _ _ hc2))) ?_ ?_
      · rintro u y H4 H5 P N hu e ⟨rfl, hy⟩ k
        rw [List.getElem?_map] at hy
        cases es : m.2[u]? with
        | none => rw [es] at hy; cases hy
        | some s =>
          rw [es] at hy
          cases hy
          walk_at "go"
          refine ⟨rfl, ?_⟩
          walk_at "go"
          refine g_dgS (e _ _ (e5 _ _ hk)) (kno_get (hm.1 s (List.mem_of_getElem? es))) ?_
          exact k _ _ (Ex.refl _) ⟨s, es, rfl⟩
      · intro H4 acc e6 hacc hla hr2
        have ea : acc = m.2.map fun s => V.int (kno wd s) := by
          refine List.ext_getElem? fun u => ?_
          cases h : acc[u]? with
          | none =>
            have := List.getElem?_eq_none_iff.1 h
            symm
            rw [List.getElem?_eq_none_iff, List.length_map]
            rw [List.length_map] at hla
            omega
          | some v =>
            obtain ⟨s, es, rfl⟩ := hr2 u v h
            rw [List.getElem?_map, es]
            rfl
        subst ea
        walk_at "go"
        refine g_tupOf hacc fun t2 ht2 => ?_
        walk_at "go"
        refine g_new fun t3 ht3 => ?_
        walk_at "go"
        have e7 := (Ex.new (o := .tup (m.2.map fun s => V.int (kno wd s))) ht2).trans (Ex.new (o := .tup [.int (i : Nat), .ref t2]) ht3)
        have a3 := @upd_same (upd H4 t2 (.tup (m.2.map fun s => V.int (kno wd s)))) t3 (.tup [.int (i : Nat), .ref t2])
        have a2 := Ex.new (o := .tup [.int (i : Nat), .ref t2]) ht3 _ _ (@upd_same H4 t2 (.tup (m.2.map fun s => V.int (kno wd s))))
        revert e7 a3 a2
        generalize upd (upd H4 t2 (.tup (m.2.map fun s => V.int (kno wd s)))) t3 (.tup [.int (i : Nat), .ref t2]) = H6
        intro e7 a3 a2
        have hd6 := e7 _ _ (e6 _ _ hkv)
        have hjl : j < kd.2.length := by omega
        have lT := hT.1
        rw [List.length_append, List.length_map, List.length_take] at lT
        refine g_dpS hd6 (by omega) ?_
        have tk : Tk H6 (upd H6 d (.dK (putK kvs (.inr m.1) (.ref t3)))) := ((But.refl d H6).upd).tk hd6 fun _ z => nomatch z
        have hnew : (i, m).2.1 ∉ (tabFrom 0 (wd.take i) ++ (kd.2.take j).map fun m => (i, m)).map fun e => e.2.1 := by
          intro z
          have e8 : kd.2 = kd.2.take j ++ m :: kd.2.drop (j + 1) := by
            have := List.getElem?_eq_some_iff.1 em
            obtain ⟨h1, h2⟩ := this
            rw [← h2, List.getElem_cons_drop, List.take_append_drop]
          rw [e8] at ndd
          simp only [List.map_append, List.map_cons, List.map_map] at ndd z
          have n1 := (List.nodup_append.1 ndd).1
          rw [← List.append_assoc] at n1
          exact (List.nodup_append.1 n1).2.2 _ z _ List.mem_cons_self rfl
        have fin := ((hT.tk (e6.trans e7).tk).put (e := (i, m)) hnew a3 a2).tk tk
        have ej : tabFrom 0 (wd.take i) ++ (kd.2.take j).map (fun m => (i, m)) ++ [(i, m)] = tabFrom 0 (wd.take i) ++ (kd.2.take (j + 1)).map fun m => (i, m) := by
          rw [List.take_add_one, em, List.map_append, List.append_assoc]
          rfl
        rw [ej] at fin
        exact ⟨⟨_, _, _, rfl⟩, (e5.trans (e6.trans e7)).at_new hd, _, upd_same, fin⟩
    · rintro σ H3 ⟨⟨o6, o7, o8, rfl⟩, e5, kvs, hkv, hT⟩
      rw [ly, List.take_length] at hT
      have tt := tab_take wd 0 i kd ek
      rw [Nat.zero_add] at tt
      exact ⟨⟨_, _, _, _, _, _, rfl⟩, e5, kvs, hkv, by rw [tt]; exact hT⟩
  · rintro σ H2 ⟨⟨o3, o4, o5, o6, o7, o8, rfl⟩, e3, kvs, hkv, hT⟩
    rw [lx, List.take_length] at hT
    walk_at "go"
    exact q _ _ _ (e1.trans e3) hkv hT
theorem vi_law_names_0 : Vis (defScope s_law_names) "_law_box_here" := by first | exact Or.inl (by decide +kernel) | exact Or.inr (Or.inl (by decide +kernel)) | exact Or.inr (Or.inr (by decide +kernel))
theorem vi_law_names_1 : Vis (defScope s_law_names) "_law_many" := by first | exact Or.inl (by decide +kernel) | exact Or.inr (Or.inl (by decide +kernel)) | exact Or.inr (Or.inr (by decide +kernel))
theorem vi_law_names_2 : Vis (defScope s_law_names) "_law_letters_here" := by first | exact Or.inl (by decide +kernel) | exact Or.inr (Or.inl (by decide +kernel)) | exact Or.inr (Or.inr (by decide +kernel))
theorem vi_law_names_3 : Vis (defScope s_law_names) "_law_stem" := by first | exact Or.inl (by decide +kernel) | exact Or.inr (Or.inl (by decide +kernel)) | exact Or.inr (Or.inr (by decide +kernel))
theorem vi_law_names_4 : Vis (defScope s_law_names) "_law_at" := by first | exact Or.inl (by decide +kernel) | exact Or.inr (Or.inl (by decide +kernel)) | exact Or.inr (Or.inr (by decide +kernel))
theorem vi_law_names_5 : Vis (defScope s_law_names) "_law_first" := by first | exact Or.inl (by decide +kernel) | exact Or.inr (Or.inl (by decide +kernel)) | exact Or.inr (Or.inr (by decide +kernel))
theorem vi_law_names_6 : Vis (defScope s_law_names) "_law_found" := by first | exact Or.inl (by decide +kernel) | exact Or.inr (Or.inl (by decide +kernel)) | exact Or.inr (Or.inr (by decide +kernel))
theorem vi_law_names_7 : Vis (defScope s_law_names) "_law_k" := by first | exact Or.inl (by decide +kernel) | exact Or.inr (Or.inl (by decide +kernel)) | exact Or.inr (Or.inr (by decide +kernel))
theorem vi_law_names_8 : Vis (defScope s_law_names) "_law_name" := by first | exact Or.inl (by decide +kernel) | exact Or.inr (Or.inl (by decide +kernel)) | exact Or.inr (Or.inr (by decide +kernel))
theorem lo_law_names_2 : Loc (defScope s_law_names) "_law_letters_here" := by first | exact Or.inl (by decide +kernel) | exact Or.inr (by decide +kernel)
theorem lo_law_names_3 : Loc (defScope s_law_names) "_law_stem" := by first | exact Or.inl (by decide +kernel) | exact Or.inr (by decide +kernel)
theorem lo_law_names_6 : Loc (defScope s_law_names) "_law_found" := by first | exact Or.inl (by decide +kernel) | exact Or.inr (by decide +kernel)
theorem lo_law_names_7 : Loc (defScope s_law_names) "_law_k" := by first | exact Or.inl (by decide +kernel) | exact Or.inr (by decide +kernel)
theorem lo_law_names_8 : Loc (defScope s_law_names) "_law_name" := by first | exact Or.inl (by decide +kernel) | exact Or.inr (by decide +kernel)
theorem ok_law_names (T : Txt K mg) : FnOk P w K mg base (L2.CX P w) 2 T.a_law_names T.d_law_names ["_law_box_here", "_law_many"] spNames2 := by
  refine T.F_law_names.okX sc_law_names (fun vs H Q E h => ?_) (fun cdv A outer s H vs Q E hr h => ?_)
  · obtain ⟨_, _, rfl, _⟩ := h
    rfl
  obtain ⟨p, many, rfl, hb, hmany, q⟩ := h
  refine ⟨_, (pss_cons (ps_set (i := 2) sc_law_names.nd rfl lo_law_names_2 pe_str)
      (pss_cons (ps_set (i := 3) sc_law_names.nd rfl lo_law_names_3 (pe_join pe_str (pe_lc (own := [("_law_k", 7)]) (g := gName 7) rfl sc_law_names.nd (pi_range1 rfl T.z_range (pa_cons (pe_callD (ok_law_take T) (hr.mono (by decide)) rfl T.m_law_take T.F_law_take.kp T.b_law_take .nil (fun σ => passAt (takes_of rfl rfl rfl rfl) σ) (pa_cons (uv 0 (hv := vi_law_names_0)) (pa_cons pe_int pa_nil))) pa_nil)) (blkOk_by (own := [("_law_k", 7)]) (N := N_law_names) (sc := defScope s_law_names) (by decide +kernel)) (fun _ _ _ _ _ => (pg_name (i := 7) sc_law_names.nd rfl (by first | exact Or.inl rfl | exact Or.inr rfl))) (fun _ _ _ _ _ => pts_nil) (fun _ _ _ _ _ => (pe_ix (show IxR _ (uIx K) from ux_seq) (uv 2) (pe_callD (ok_law_take T) (hr.mono (by decide)) rfl T.m_law_take T.F_law_take.kp T.b_law_take .nil (fun _ => passAt0) (pa_cons (uv 0) (pa_cons pe_int pa_nil))) (fun _ _ => rfl))))))
      (pss_cons (ps_par (i := 4) (j := 5) rfl sc_law_names.nd rfl rfl (by decide) rfl rfl (pa_cons (pe_callD (ok_law_take T) (hr.mono (by decide)) rfl T.m_law_take T.F_law_take.kp T.b_law_take .nil (fun σ => passAt (takes_of rfl rfl rfl rfl) σ) (pa_cons (uv 0 (hv := vi_law_names_0)) (pa_cons (pe_op uo_add (pe_callB uk_len rfl T.z_len boot_len (pa_cons (uv 3 (hv := vi_law_names_3)) pa_nil)) pe_int) pa_nil))) (pa_cons (pe_callD (ok_law_take T) (hr.mono (by decide)) rfl T.m_law_take T.F_law_take.kp T.b_law_take .nil (fun σ => passAt (takes_of rfl rfl rfl rfl) σ) (pa_cons (uv 0 (hv := vi_law_names_0)) (pa_cons pe_int pa_nil))) pa_nil)) rfl)
      (pss_cons (ps_set (i := 6) sc_law_names.nd rfl lo_law_names_6 (pe_lst pa_nil))
      (pss_cons (ps_for (passes_of rfl) rfl (pi_range1 rfl T.z_range (pa_cons (uv 1 (hv := vi_law_names_1)) pa_nil)) (pg_name (i := 7) sc_law_names.nd rfl lo_law_names_7) (pss_cons (ps_set (i := 8) sc_law_names.nd rfl lo_law_names_8 (pe_op uo_add (pe_op uo_add (pe_slice us_sl (uv 3 (hv := vi_law_names_3)) po_none (po_some (uv 4 (hv := vi_law_names_4)))) (pe_ix ux_seq (uv 2 (hv := vi_law_names_2)) (pe_op uo_mod (pe_op uo_add (uv 5 (hv := vi_law_names_5)) (pe_op uo_mul pe_int (uv 7 (hv := vi_law_names_7)))) pe_int) (fun _ _ => rfl))) (pe_slice us_sl (uv 3 (hv := vi_law_names_3)) (po_some (uv 4 (hv := vi_law_names_4))) po_none)))
      (C8.pss_cut (ps_if (pt_cmpR op_eq (pe_op uo_mod (uv 7 (hv := vi_law_names_7)) pe_int) pe_int (nomark _)) (pss_one (ps_set (i := 8) sc_law_names.nd rfl lo_law_names_8 (pe_op uo_add (uv 8 (hv := vi_law_names_8)) pe_str))) pss_nil)
      (C8.pss_cut (ps_if (PW.pt (pw_or (pt_cmpR uo_in (uv 8 (hv := vi_law_names_8)) (uv 6 (hv := vi_law_names_6)) rfl) (pw_or1 (pt_cmpR op_eq (uv 8 (hv := vi_law_names_8)) pe_str (nomark _))))) (pss_one (ps_set (i := 8) sc_law_names.nd rfl lo_law_names_8 (pe_op uo_add (pe_op uo_add pe_str (pe_ix ux_seq (uv 2 (hv := vi_law_names_2)) (pe_op uo_mod (uv 7 (hv := vi_law_names_7)) pe_int) (fun _ _ => rfl))) (pe_ix ux_seq (uv 2 (hv := vi_law_names_2)) (pe_op uo_fd (uv 7 (hv := vi_law_names_7)) pe_int) (fun _ _ => rfl))))) pss_nil)
      (pss_one (ps_expr (pe_bm PySem.F.plainAttrs_list PySem.F.slot_list_append PySem.F.type_list_append mt_append (uv 6 (hv := vi_law_names_6)) (pa_cons (uv 8 (hv := vi_law_names_8)) pa_nil))))))))
      (pss_one (ps_ret (uv 6 (hv := vi_law_names_6))))))))), ?_⟩
  walk_at "go"
  refine g_m1 ?_
  walk_at "go"
  refine ⟨p, 5, rfl, hb, by decide, by decide, fun n0 H1 n00 n01 b1 hb1 => ?_⟩
  walk_at "go"
  refine ⟨n0, rfl, by omega, by omega, fun D hD => ?_⟩
  refine lc_mapB walk_range p (fun _ _ v => ∃ c, v = V.str ⟨#[c]⟩ ∧ c ∈ lettersS.cps.toList) (by omega) hD hb1 (fun _ _ _ _ _ r => r) (fun _ _ => trivial) ?_ ?_
  · rintro i x H6 H7 P N hi e6 hb6 ⟨rfl, rfl⟩ k
    walk_at "go"
    refine ⟨rfl, ?_⟩
    walk_at "go"
    refine ⟨p, 26, rfl, hb6, by decide, by decide, fun j H8 j0 j1 b8 hb8 => ?_⟩
    walk_at "go"
    obtain ⟨c, ec, hc⟩ := atI_ex (l := lettersS.cps.toList) j0 (by rw [← str_len, letters_len]; omega)
    refine g_ixS (z := lettersS) ec (by rw [letters_len]; decide) ?_
    exact k _ _ b8 hb8 ⟨c, rfl, List.mem_of_getElem? hc⟩
  intro H2 acc e2 hb2 hacc hla hr2
  obtain ⟨cs, rfl, hcl, hcs⟩ := acc_ones hla hr2
  refine ⟨"", D, cs.map one, rfl, rfl, .inl (sqL hacc), joinB (by omega), ?_⟩
  have sl : (Txt.join "" (cs.map one)).length ≤ 4 := by rw [str_len, joinOnes]; omega
  have slow : Low (Txt.join "" (cs.map one)) := fun c hc => by rw [joinOnes] at hc; exact hcs c hc
  generalize Txt.join "" (cs.map one) = stem at sl slow
  have b02 := b1.trans e2
  clear hr2 hla hacc hcl hcs hb1 e2
  walk_at "go"
  refine g_lenStr (by omega) ?_
  walk_at "go"
  refine ⟨p, _, rfl, hb2, by omega, Nat.lt_of_lt_of_le (Bits.log (n := 10) (show ((stem.length : Nat) + 1 : Int).natAbs < 2 ^ 10 by omega)) (by decide), fun pos H3 p0 p1 b3 hb3 => ?_⟩
  obtain ⟨at', rfl⟩ := Int.eq_ofNat_of_zero_le p0
  have at_le : at' ≤ stem.length := by omega
  have at_le2 : at' ≤ stem.cps.toList.length := by rw [← str_len]; exact at_le
  walk_at "go"
  refine ⟨p, 26, rfl, hb3, by decide, by decide, fun fi H4 f0 f1 b4 hb4 => ?_⟩
  obtain ⟨f', rfl⟩ := Int.eq_ofNat_of_zero_le f0
  have b04 := (b02.trans b3).trans b4
  walk_at "go"
  refine g_new fun l hl => ?_
  have nl := hb4.ne hl
  have hl0 : H l = none := by
    cases c : H l with
    | none => rfl
    | some o => rw [b04 _ _ nl c] at hl; cases hl
  walk_at "go"
  refine ⟨_, rfl, by omega, by omega, ?_⟩
  rw [Int.toNat_natCast]
  refine for_it walk_range (fun i σ H5 => (∃ o7 o8, σ = [some (.ref p), some (.int (many : Nat)), some (.str lettersS), some (.str stem), some (.int (at' : Nat)), some (.int (f' : Nat)), some (.ref l), o7, o8]) ∧ But p H H5 ∧ Box H5 p ∧ ∃ ss : List Str, H5 l = some (.lst (ss.map V.str)) ∧ ss.length = i ∧ (∀ s ∈ ss, isName s = true) ∧ ss.Nodup ∧ ∀ (j : Nat) (s : Str), ss[j]? = some s → NmAt stem.cps.toList at' f' j s) ⟨⟨_, _, rfl⟩, b04.at_new hl0, hb4.at_upd nl, [], upd_same, rfl, fun s z => (nomatch z), List.nodup_nil, fun j s z => by simp at z⟩ (fun _ _ _ _ _ => trivial) ?_ ?_
  · rintro i x σ H5 H5' hi ⟨⟨o7, o8, rfl⟩, b5, hb5, ss, hss, hsl, hsn, hsd, hnm⟩ ⟨rfl, rfl⟩
    have l1 : (cutS stem none (some (at' : Int))).length = min at' stem.length := cut_to_len _ _
    have l2 : (cutS stem (some (at' : Int)) none).length = stem.length - at' := by rw [str_len, cut_from at_le, List.length_drop, ← str_len]
    have l3 : (⟨#[97 + (f' + 7 * i) % 26]⟩ : Str).length = 1 := rfl
    have l4 := app_len (cutS stem none (some (at' : Int))) ⟨#[97 + (f' + 7 * i) % 26]⟩
    have l5 := app_len (cutS stem none (some (at' : Int)) ++ ⟨#[97 + (f' + 7 * i) % 26]⟩) (cutS stem (some (at' : Int)) none)
    have nml := name_list (c := 97 + (f' + 7 * i) % 26) at_le
    walk_at "go"
    refine g_slS (by omega) ?_
    walk_at "go"
    refine g_ixS (z := lettersS) (letters_mod (n := f' + 7 * i) (by omega)) (by rw [letters_len]; decide) ?_
    refine g_addS (by omega) ?_
    walk_at "go"
    refine g_slS (by omega) ?_
    walk_at "go"
    refine g_addS (by omega) ?_
    walk_at "go"
    generalize (cutS stem none (some (at' : Int)) ++ ⟨#[97 + (f' + 7 * i) % 26]⟩) ++ cutS stem (some (at' : Int)) none = nm0 at l5 nml
    refine ⟨fun σ' H' => H' = H5' ∧ ∃ nm : Str, nm.length ≤ 6 ∧ nm.cps.toList = fullL stem.cps.toList at' f' i ∧ σ' = [some (.ref p), some (.int (many : Nat)), some (.str lettersS), some (.str stem), some (.int (at' : Nat)), some (.int (f' : Nat)), some (.ref l), some (.int (0 + (i : Int))), some (.str nm)], ?_, ?_⟩
    · walk_at "go"
      have e3 : (0 + (i : Int)).fmod 3 = ((i % 3 : Nat) : Int) := by
        rw [Int.zero_add, Int.fmod_eq_emod_of_nonneg _ (by decide)]
        rfl
      rw [e3]
      refine i_eqI (fun c => ?_) fun c => ?_
      · have c' : i % 3 = 1 := by omega
        walk_at "go"
        have l6 := app_len nm0 "j"
        have l7 : ("j" : Str).length = 1 := rfl
        refine g_addS (by omega) ?_
        walk_at "go"
        refine ⟨rfl, nm0 ++ "j", by omega, ?_, rfl⟩
        rw [app_list, nml]
        unfold fullL baseL
        rw [if_pos c']
        rfl
      · have c' : ¬ i % 3 = 1 := by omega
        walk_at "go"
        refine ⟨rfl, nm0, by omega, ?_, rfl⟩
        rw [nml]
        unfold fullL baseL
        rw [if_neg c', List.append_nil]
    rintro σ' H' ⟨rfl, nm, ln, enm, rfl⟩
    refine ⟨fun σ' H'' => H'' = H' ∧ ∃ nm : Str, NmAt stem.cps.toList at' f' i nm ∧ σ' = [some (.ref p), some (.int (many : Nat)), some (.str lettersS), some (.str stem), some (.int (at' : Nat)), some (.int (f' : Nat)), some (.ref l), some (.int (0 + (i : Int))), some (.str nm)], ?_, ?_⟩
    · walk_at "go"
      refine g_inL hss ?_
      rw [decide_eq_false ((nm_new at_le2 (by omega) hsl hnm).1 nm enm)]
      walk_at "go"
      refine i_eqS (fun c => ?_) fun c => ?_
      · walk_at "go"
        have k1 : (⟨#[97 + i % 26]⟩ : Str).length = 1 := rfl
        have k2 : (⟨#[97 + i / 26]⟩ : Str).length = 1 := rfl
        have k3 : ("jj" : Str).length = 2 := rfl
        have k4 := app_len "jj" ⟨#[97 + i % 26]⟩
        refine g_ixS (z := lettersS) (letters_mod (n := i) (by omega)) (by rw [letters_len]; decide) ?_
        refine g_addS (by omega) ?_
        walk_at "go"
        refine g_ixS (z := lettersS) (letters_div (n := i) (by omega) (by omega)) (by rw [letters_len]; decide) ?_
        refine g_addS (by omega) ?_
        walk_at "go"
        refine ⟨rfl, _, .inr ⟨by rw [← enm, c]; exact kindL_eq, ?_⟩, rfl⟩
        rw [app_list, app_list]
        rfl
      · walk_at "go"
        exact ⟨rfl, nm, .inl ⟨fun z => c (str_ext (by rw [enm, z]; exact kindL_eq.symm)), enm⟩, rfl⟩
    rintro σ' H'' ⟨rfl, nm2, hn2, rfl⟩
    walk_at "go"
    refine g_app hss (Nat.lt_of_le_of_lt (by rw [List.length_map]; omega : (ss.map V.str).length ≤ 1000) (by decide)) ?_
    have nin := (nm_new at_le2 (by omega) hsl hnm).2 nm2 hn2
    have isn := nm_is at_le2 (by omega) slow (by rw [← str_len]; exact sl) hn2
    walk_at "go"
    refine ⟨⟨_, _, rfl⟩, b5.at_new hl0, hb5.at_upd nl, ss ++ [nm2], by rw [upd_same, List.map_append]; rfl, by rw [List.length_append, hsl]; rfl, fun s hs => ?_, ?_, fun j s hj => ?_⟩
    · rcases List.mem_append.1 hs with hs | hs
      · exact hsn s hs
      · rw [List.mem_singleton.1 hs]
        exact isn
    · refine List.nodup_append.2 ⟨hsd, List.nodup_cons.2 ⟨fun z => (nomatch z), List.nodup_nil⟩, fun x hx y hy => ?_⟩
      rw [List.mem_singleton.1 hy]
      intro z
      exact nin (z ▸ hx)
    · rcases Nat.lt_or_ge j ss.length with c | c
      · rw [List.getElem?_append_left c] at hj
        exact hnm j s hj
      · rw [List.getElem?_append_right c] at hj
        have ej : j = i := by
          have := (List.getElem?_eq_some_iff.1 hj).1
          rw [List.length_singleton] at this
          omega
        subst ej
        rw [hsl, Nat.sub_self] at hj
        cases hj
        exact hn2
  · rintro σ H5 ⟨⟨o7, o8, rfl⟩, b5, hb5, ss, hss, hsl, hsn, hsd, hnm⟩
    walk_at "go"
    exact q _ ss _ hsl hsn hsd hl0 b5 hb5 hss
theorem vi_law_letters_1 : Vis (defScope s_law_letters) "_law_many" := by first | exact Or.inl (by decide +kernel) | exact Or.inr (Or.inl (by decide +kernel)) | exact Or.inr (Or.inr (by decide +kernel))
theorem lo_law_letters_2 : Loc (defScope s_law_letters) "_law_left" := by first | exact Or.inl (by decide +kernel) | exact Or.inr (by decide +kernel)
theorem ok_law_letters (T : Txt K mg) : FnOk P w K mg base (L2.CX P w) 2 T.a_law_letters T.d_law_letters ["_law_box_here", "_law_many"] spLetters := by
  refine T.F_law_letters.okX sc_law_letters (fun vs H Q E h => ?_) (fun cdv A outer s H vs Q E hr h => ?_)
  · obtain ⟨_, _, rfl, _⟩ := h
    rfl
  obtain ⟨p, many, rfl, hb, m1, m9, q⟩ := h
  refine ⟨_, (pss_cons (ps_set (i := 2) sc_law_letters.nd rfl lo_law_letters_2 (pe_callTy (call_listS rfl) rfl T.z_list boot_list (pa_cons pe_str pa_nil)))
      (pss_one (ps_ret (pe_join pe_str (pe_lc (own := [("_law_k", 3)]) (g := gName 3) rfl sc_law_letters.nd (pi_range1 rfl T.z_range (pa_cons (uv 1 (hv := vi_law_letters_1)) pa_nil)) (blkOk_by (own := [("_law_k", 3)]) (N := N_law_letters) (sc := defScope s_law_letters) (by decide +kernel)) (fun _ _ _ _ _ => (pg_name (i := 3) sc_law_letters.nd rfl (by first | exact Or.inl rfl | exact Or.inr rfl))) (fun _ _ _ _ _ => pts_nil) (fun _ _ _ _ _ => (show PE _ _ (tBM K "list" rPopAt _ _) from (pe_bm PySem.F.plainAttrs_list PySem.F.slot_list_pop PySem.F.type_list_pop mt_popAt (uv 2) (pa_cons (pe_callD (ok_law_take T) (hr.mono (by decide)) rfl T.m_law_take T.F_law_take.kp T.b_law_take .nil (fun _ => passAt0) (pa_cons (uv 0) (pa_cons (pe_callB (show CallR _ (.builtin "len") (uLen K) from uk_len) rfl T.z_len boot_len (pa_cons (uv 2) pa_nil)) pa_nil))) pa_nil))))))))), ?_⟩
  walk_at "go"
  refine g_listS (x := signS) (by decide +kernel) fun L hL => ?_
  have hL1 := @upd_same H L (.lst (ones signS))
  have e1 := Ex.new (o := .lst (ones signS)) hL
  have nL := hb.ne hL
  have hb1 := hb.ex e1
  rw [show ones signS = signL.map sgV from by unfold ones; rw [signS_list]; rfl] at hL1 e1 hb1
  rw [show ones signS = signL.map sgV from by unfold ones; rw [signS_list]; rfl]
  revert hL1 e1 hb1
  generalize upd H L (.lst (signL.map sgV)) = H1
  intro hL1 e1 hb1
  walk_at "go"
  refine g_m1 ?_
  walk_at "go"
  refine ⟨_, rfl, by omega, by omega, fun D hD => ?_⟩
  rw [Int.toNat_natCast]
  have nDL : L ≠ D := ne_of_none hL1 hD
  have nD := hb1.ne hD
  refine lc_it walk_range (fun i H2 => But p H H2 ∧ Box H2 p ∧ ∃ got rest : List Nat, H2 D = some (.lst (got.map sgV)) ∧ H2 L = some (.lst (rest.map sgV)) ∧ got.length = i ∧ (got ++ rest).Perm signL) ⟨(e1.trans (Ex.new hD)).but p, hb1.ex (Ex.new hD), [], signL, upd_same, Ex.new hD _ _ hL1, rfl, List.Perm.refl _⟩ (fun _ _ _ _ => trivial) ?_ ?_
  · rintro i x H2 H2' hi ⟨b2, hb2, got, rest, hD2, hL2, lg, pm⟩ ⟨rfl, rfl⟩
    have lr : got.length + rest.length = 93 := by rw [← List.length_append, pm.length_eq, signL_len]
    walk_at "go"
    refine ⟨rfl, ?_⟩
    walk_at "go"
    rw [List.length_map]
    refine ⟨p, _, rfl, hb2, by omega, Nat.lt_of_lt_of_le (Bits.log (n := 10) (show ((rest.length : Nat) : Int).natAbs < 2 ^ 10 by omega)) (by decide), fun d H3 d0 d1 b3 hb3 => ?_⟩
    obtain ⟨k, rfl⟩ := Int.eq_ofNat_of_zero_le d0
    obtain ⟨c, hc⟩ : ∃ c, rest[k]? = some c := ⟨_, List.getElem?_eq_getElem (by omega)⟩
    walk_at "go"
    refine g_popAt (y := sgV c) (b3 _ _ nL hL2) (by rw [List.length_map]; omega) (by rw [List.getElem?_map, hc]; rfl) ?_
    rw [map_erase]
    refine ⟨got.map sgV, by rw [upd_ne (Ne.symm nDL)]; exact b3 _ _ nD hD2, Nat.lt_of_le_of_lt (by rw [List.length_map]; omega : (got.map sgV).length ≤ 1000) (by decide), ?_⟩
    refine ⟨((b2.trans b3).at_new hL).at_new (e1.free hD), (hb3.at_upd nL).at_upd nD, got ++ [c], rest.eraseIdx k, by rw [upd_same, List.map_append]; rfl, by rw [upd_ne nDL, upd_same], by rw [List.length_append, lg]; rfl, ?_⟩
    rw [List.append_assoc]
    exact (List.Perm.append_left got (perm_erase rest k c hc).symm).trans pm
  · rintro H2 ⟨b2, hb2, got, rest, hD2, hL2, lg, pm⟩
    have lw : ∀ c ∈ got, c ∈ signL := fun c hc => pm.mem_iff.1 (List.mem_append_left _ hc)
    have nd : got.Nodup := (List.nodup_append.1 (pm.nodup_iff.2 signL_nd)).1
    have hD3 : H2 D = some (.lst ((got.map one).map V.str)) := by rw [List.map_map]; exact hD2
    refine ⟨"", D, got.map one, rfl, rfl, .inl (sqL hD3), joinB (by omega), ?_⟩
    have ec : (Txt.join "" (got.map one)).cps.toList = got := joinOnes got
    refine q _ _ ⟨by rw [str_len, ec]; omega, by rw [str_len, ec]; omega, by rw [ec]; exact nd, fun c hc => ?_⟩ b2 hb2
    rw [ec] at hc
    exact signL_low (lw c hc)
theorem vi_law_item_text_0 : Vis (defScope s_law_item_text) "_law_box_here" := by first | exact Or.inl (by decide +kernel) | exact Or.inr (Or.inl (by decide +kernel)) | exact Or.inr (Or.inr (by decide +kernel))
theorem vi_law_item_text_2 : Vis (defScope s_law_item_text) "_law_many" := by first | exact Or.inl (by decide +kernel) | exact Or.inr (Or.inl (by decide +kernel)) | exact Or.inr (Or.inr (by decide +kernel))
theorem lo_law_item_text_2 : Loc (defScope s_law_item_text) "_law_many" := by first | exact Or.inl (by decide +kernel) | exact Or.inr (by decide +kernel)
theorem ok_law_item_text (T : Txt K mg) : FnOk P w K mg base (L2.CX P w) 2 T.a_law_item_text T.d_law_item_text ["_law_box_here", "_law_letters_here"] spItemT := by
  refine T.F_law_item_text.okX sc_law_item_text (fun vs H Q E h => ?_) (fun cdv A outer s H vs Q E hr h => ?_)
  · obtain ⟨_, _, rfl, _⟩ := h
    rfl
  obtain ⟨p, ls, rfl, hb, l1, l9, q⟩ := h
  refine ⟨_, (pss_cons (ps_set (i := 2) sc_law_item_text.nd rfl lo_law_item_text_2 (pe_op uo_add pe_int (pe_callD (ok_law_take T) (hr.mono (by decide)) rfl T.m_law_take T.F_law_take.kp T.b_law_take .nil (fun σ => passAt (takes_of rfl rfl rfl rfl) σ) (pa_cons (uv 0 (hv := vi_law_item_text_0)) (pa_cons (pe_ix ux_seq (pe_lst (pa_cons pe_int (pa_cons pe_int (pa_cons pe_int pa_nil)))) (pe_callD (ok_law_take T) (hr.mono (by decide)) rfl T.m_law_take T.F_law_take.kp T.b_law_take .nil (fun σ => passAt (takes_of rfl rfl rfl rfl) σ) (pa_cons (uv 0 (hv := vi_law_item_text_0)) (pa_cons pe_int pa_nil))) (fun _ _ => rfl)) pa_nil)))))
      (pss_one (ps_ret (pe_join pe_str (pe_lc (own := [("_law_k", 3)]) (g := gName 3) rfl sc_law_item_text.nd (pi_range1 rfl T.z_range (pa_cons (uv 2 (hv := vi_law_item_text_2)) pa_nil)) (blkOk_by (own := [("_law_k", 3)]) (N := N_law_item_text) (sc := defScope s_law_item_text) (by decide +kernel)) (fun _ _ _ _ _ => (pg_name (i := 3) sc_law_item_text.nd rfl (by first | exact Or.inl rfl | exact Or.inr rfl))) (fun _ _ _ _ _ => pts_nil) (fun _ _ _ _ _ => (pe_ix (show IxR _ (uIx K) from ux_seq) (uv 1) (pe_callD (ok_law_take T) (hr.mono (by decide)) rfl T.m_law_take T.F_law_take.kp T.b_law_take .nil (fun _ => passAt0) (pa_cons (uv 0) (pa_cons (pe_callB (show CallR _ (.builtin "len") (uLen K) from uk_len) rfl T.z_len boot_len (pa_cons (uv 1) pa_nil)) pa_nil))) (fun _ _ => rfl)))))))), ?_⟩
  walk_at "go"
  refine g_new fun l hl => ?_
  have hl1 := @upd_same H l (.lst [.int 2, .int 2, .int 8])
  have e1 := Ex.new (o := .lst [.int 2, .int 2, .int 8]) hl
  have nl := hb.ne hl
  have hb1 := hb.ex e1
  revert hl1 e1 hb1
  generalize upd H l (.lst [.int 2, .int 2, .int 8]) = H1
  intro hl1 e1 hb1
  walk_at "go"
  refine ⟨p, 3, rfl, hb1, by decide, by decide, fun d H2 d0 d1 b2 hb2 => ?_⟩
  have em : ∃ m : Int, atI [V.int 2, .int 2, .int 8] d = some (.int m) ∧ 2 ≤ m ∧ m ≤ 8 := by
    have z : d = 0 ∨ d = 1 ∨ d = 2 := by omega
    rcases z with rfl | rfl | rfl <;> exact ⟨_, rfl, by decide, by decide⟩
  obtain ⟨m, em, m0, m1⟩ := em
  walk_at "go"
  refine g_ixL (b2 _ _ nl hl1) em ?_
  walk_at "go"
  refine ⟨p, m, rfl, hb2, by omega, Nat.lt_of_lt_of_le (Bits.log (n := 10) (show m.natAbs < 2 ^ 10 by omega)) (by decide), fun n H3 n0 n1 b3 hb3 => ?_⟩
  obtain ⟨k, rfl⟩ := Int.eq_ofNat_of_zero_le n0
  walk_at "go"
  refine g_m1 ?_
  walk_at "go"
  refine ⟨_, rfl, by omega, by omega, fun D hD => ?_⟩
  refine lc_mapB walk_range p (fun _ _ v => ∃ c, v = V.str ⟨#[c]⟩ ∧ c ∈ ls.cps.toList) (by omega) hD hb3 (fun _ _ _ _ _ r => r) (fun _ _ => trivial) ?_ ?_
  · rintro i x H6 H7 P N hi e6 hb6 ⟨rfl, rfl⟩ kk
    walk_at "go"
    refine ⟨rfl, ?_⟩
    walk_at "go"
    refine g_lenStr (by omega) ?_
    walk_at "go"
    refine ⟨p, _, rfl, hb6, by omega, Nat.lt_of_lt_of_le (Bits.log (n := 10) (show ((ls.length : Nat) : Int).natAbs < 2 ^ 10 by omega)) (by decide), fun j H8 j0 j1 b8 hb8 => ?_⟩
    walk_at "go"
    obtain ⟨c, ec, hc⟩ := atI_ex (l := ls.cps.toList) j0 (by rw [← str_len]; omega)
    refine g_ixS (z := ls) ec (by omega) ?_
    exact kk _ _ b8 hb8 ⟨c, rfl, List.mem_of_getElem? hc⟩
  intro H4 acc e4 hb4 hacc hla hr2
  obtain ⟨cs, rfl, hcl, hcs⟩ := acc_ones hla hr2
  refine ⟨"", D, cs.map one, rfl, rfl, .inl (sqL hacc), joinB (by omega), ?_⟩
  have ec := joinOnes cs
  exact q _ _ (by rw [str_len, ec]; omega) (by rw [str_len, ec]; omega) (fun c hc => by rw [ec] at hc; exact hcs c hc) (((e1.but p).trans b2).trans (b3.trans e4)) hb4
theorem vi_law_text_counts_0 : Vis (defScope s_law_text_counts) "_law_box_here" := by first | exact Or.inl (by decide +kernel) | exact Or.inr (Or.inl (by decide +kernel)) | exact Or.inr (Or.inr (by decide +kernel))
theorem vi_law_text_counts_1 : Vis (defScope s_law_text_counts) "_law_wood_here" := by first | exact Or.inl (by decide +kernel) | exact Or.inr (Or.inl (by decide +kernel)) | exact Or.inr (Or.inr (by decide +kernel))
theorem vi_law_text_counts_2 : Vis (defScope s_law_text_counts) "_law_most" := by first | exact Or.inl (by decide +kernel) | exact Or.inr (Or.inl (by decide +kernel)) | exact Or.inr (Or.inr (by decide +kernel))
theorem vi_law_text_counts_3 : Vis (defScope s_law_text_counts) "_law_found" := by first | exact Or.inl (by decide +kernel) | exact Or.inr (Or.inl (by decide +kernel)) | exact Or.inr (Or.inr (by decide +kernel))
theorem lo_law_text_counts_3 : Loc (defScope s_law_text_counts) "_law_found" := by first | exact Or.inl (by decide +kernel) | exact Or.inr (by decide +kernel)
theorem lo_law_text_counts_4 : Loc (defScope s_law_text_counts) "_law_kind" := by first | exact Or.inl (by decide +kernel) | exact Or.inr (by decide +kernel)
theorem ok_law_text_counts (T : Txt K mg) : FnOk P w K mg base (L2.CX P w) 2 T.a_law_text_counts T.d_law_text_counts ["_law_box_here", "_law_wood_here", "_law_most"] spTextCounts := by
  refine T.F_law_text_counts.okX sc_law_text_counts (fun vs H Q E h => ?_) (fun cdv A outer s H vs Q E hr h => ?_)
  · obtain ⟨_, _, _, _, rfl, _⟩ := h
    rfl
  obtain ⟨p, wd, v, most, rfl, hb, rv, ok, hm, q⟩ := h
  refine ⟨_, (pss_cons (ps_set (i := 3) sc_law_text_counts.nd rfl lo_law_text_counts_3 (pe_lst pa_nil))
      (pss_cons (ps_for (passes_of rfl) rfl (ui_seq (uv 1 (hv := vi_law_text_counts_1))) (pg_name (i := 4) sc_law_text_counts.nd rfl lo_law_text_counts_4) (pss_one (ps_expr (pe_bm PySem.F.plainAttrs_list PySem.F.slot_list_append PySem.F.type_list_append mt_append (uv 3 (hv := vi_law_text_counts_3)) (pa_cons (pe_callD (ok_law_take T) (hr.mono (by decide)) rfl T.m_law_take T.F_law_take.kp T.b_law_take .nil (fun σ => passAt (takes_of rfl rfl rfl rfl) σ) (pa_cons (uv 0 (hv := vi_law_text_counts_0)) (pa_cons (pe_op uo_add (pe_callB (uk_min2 rfl) rfl T.z_min boot_min (pa_cons pe_int (pa_cons (pe_op uo_sub (uv 2 (hv := vi_law_text_counts_2)) (pe_callB (cr_sum rfl) rfl T.z_sum boot_sum (pa_cons (uv 3 (hv := vi_law_text_counts_3)) pa_nil))) pa_nil))) pe_int) pa_nil))) pa_nil)))))
      (pss_one (ps_ret (pe_callTy uk_tup rfl T.z_tuple boot_tuple (pa_cons (uv 3 (hv := vi_law_text_counts_3)) pa_nil)))))), ?_⟩
  obtain ⟨wa, wx, rfl, hwa, rs⟩ := id rv.tupI
  have lx : wx.length = wd.length := by rw [rs.len, List.length_map]
  have pk := ok.kinds
  have nwa : wa ≠ p := hb.tkne (Ex.refl _) hwa
  walk_at "go"
  refine g_new fun L hL => ?_
  have nL := hb.ne hL
  walk_at "go"
  refine g_seqTs ?_
  walk_at "go"
  refine ⟨_, rfl, ⟨wx, sqT (Ex.new hL _ _ hwa)⟩, ?_⟩
  refine for_it walk_tup (fun i σ H2 => (∃ o4, σ = [some (.ref p), some (.ref wa), some (.int (most : Nat)), some (.ref L), o4]) ∧ But p H H2 ∧ Box H2 p ∧ ∃ cs : List Int, H2 L = some (.lst (cs.map V.int)) ∧ cs.length = i ∧ (∀ x ∈ cs, 0 ≤ x ∧ x ≤ 2) ∧ 0 ≤ cs.sum ∧ cs.sum ≤ (most : Nat)) ⟨⟨_, rfl⟩, (Ex.new hL).but p, hb.at_upd nL, [], upd_same, rfl, fun x z => (nomatch z), by decide, by simp⟩ (fun i σ H2 _ h => sqT (h.2.1 _ _ nwa hwa)) ?_ ?_
  · rintro i x σ H2 H2' hi ⟨⟨o4, rfl⟩, b2, hb2, cs, hL2, lc, hcs, s0, s1⟩ ⟨rfl, hx⟩
    walk_at "go"
    refine ⟨_, cs, rfl, sqL hL2, ?_⟩
    walk_at "go"
    refine ⟨p, _, rfl, hb2, by omega, Nat.lt_of_lt_of_le (Bits.log (n := 10) (show (min 2 (((most : Nat) : Int) - cs.sum) + 1).natAbs < 2 ^ 10 by omega)) (by decide), fun d H3 d0 d1 b3 hb3 => ?_⟩
    have hL3 := b3 _ _ nL hL2
    walk_at "go"
    refine g_app hL3 (Nat.lt_of_le_of_lt (by rw [List.length_map]; omega : (cs.map V.int).length ≤ 1000) (by decide)) ?_
    walk_at "go"
    refine ⟨⟨_, rfl⟩, (b2.trans b3).at_new hL, hb3.at_upd nL, cs ++ [d], by rw [upd_same, List.map_append]; rfl, by rw [List.length_append, lc]; rfl, fun x hx => ?_, ?_, ?_⟩
    · rcases List.mem_append.1 hx with hx | hx
      · exact hcs x hx
      · rw [List.mem_singleton.1 hx]
        omega
    · rw [List.sum_append, List.sum_singleton]
      omega
    · rw [List.sum_append, List.sum_singleton]
      omega
  · rintro σ H2 ⟨⟨o4, rfl⟩, b2, hb2, cs, hL2, lc, hcs, s0, s1⟩
    walk_at "go"
    refine g_tupOf hL2 fun c hc => ?_
    have e3 := Ex.new (o := .tup (cs.map V.int)) hc
    exact q _ _ _ upd_same (by omega) hcs (b2.trans (e3.but p)) (hb2.ex e3)
theorem vi_law_due_0 : Vis (defScope s_law_due) "_law_wood_here" := by first | exact Or.inl (by decide +kernel) | exact Or.inr (Or.inl (by decide +kernel)) | exact Or.inr (Or.inr (by decide +kernel))
theorem vi_law_due_1 : Vis (defScope s_law_due) "_law_printer_here" := by first | exact Or.inl (by decide +kernel) | exact Or.inr (Or.inl (by decide +kernel)) | exact Or.inr (Or.inr (by decide +kernel))
theorem vi_law_due_2 : Vis (defScope s_law_due) "_law_letters_here" := by first | exact Or.inl (by decide +kernel) | exact Or.inr (Or.inl (by decide +kernel)) | exact Or.inr (Or.inr (by decide +kernel))
theorem vi_law_due_3 : Vis (defScope s_law_due) "_law_counts" := by first | exact Or.inl (by decide +kernel) | exact Or.inr (Or.inl (by decide +kernel)) | exact Or.inr (Or.inr (by decide +kernel))
theorem vi_law_due_4 : Vis (defScope s_law_due) "_law_rules" := by first | exact Or.inl (by decide +kernel) | exact Or.inr (Or.inl (by decide +kernel)) | exact Or.inr (Or.inr (by decide +kernel))
theorem vi_law_due_5 : Vis (defScope s_law_due) "_law_makers_here" := by first | exact Or.inl (by decide +kernel) | exact Or.inr (Or.inl (by decide +kernel)) | exact Or.inr (Or.inr (by decide +kernel))
theorem vi_law_due_6 : Vis (defScope s_law_due) "_law_bad" := by first | exact Or.inl (by decide +kernel) | exact Or.inr (Or.inl (by decide +kernel)) | exact Or.inr (Or.inr (by decide +kernel))
theorem vi_law_due_7 : Vis (defScope s_law_due) "_law_maker" := by first | exact Or.inl (by decide +kernel) | exact Or.inr (Or.inl (by decide +kernel)) | exact Or.inr (Or.inr (by decide +kernel))
theorem vi_law_due_8 : Vis (defScope s_law_due) "_law_kind" := by first | exact Or.inl (by decide +kernel) | exact Or.inr (Or.inl (by decide +kernel)) | exact Or.inr (Or.inr (by decide +kernel))
theorem vi_law_due_9 : Vis (defScope s_law_due) "_law_parts" := by first | exact Or.inl (by decide +kernel) | exact Or.inr (Or.inl (by decide +kernel)) | exact Or.inr (Or.inr (by decide +kernel))
theorem vi_law_due_10 : Vis (defScope s_law_due) "_law_rows" := by first | exact Or.inl (by decide +kernel) | exact Or.inr (Or.inl (by decide +kernel)) | exact Or.inr (Or.inr (by decide +kernel))
theorem vi_law_due_11 : Vis (defScope s_law_due) "_law_seen" := by first | exact Or.inl (by decide +kernel) | exact Or.inr (Or.inl (by decide +kernel)) | exact Or.inr (Or.inr (by decide +kernel))
theorem vi_law_due_12 : Vis (defScope s_law_due) "_law_row" := by first | exact Or.inl (by decide +kernel) | exact Or.inr (Or.inl (by decide +kernel)) | exact Or.inr (Or.inr (by decide +kernel))
theorem vi_law_due_13 : Vis (defScope s_law_due) "_law_item" := by first | exact Or.inl (by decide +kernel) | exact Or.inr (Or.inl (by decide +kernel)) | exact Or.inr (Or.inr (by decide +kernel))
theorem vi_law_due_14 : Vis (defScope s_law_due) "_law_wrong" := by first | exact Or.inl (by decide +kernel) | exact Or.inr (Or.inl (by decide +kernel)) | exact Or.inr (Or.inr (by decide +kernel))
theorem lo_law_due_2 : Loc (defScope s_law_due) "_law_letters_here" := by first | exact Or.inl (by decide +kernel) | exact Or.inr (by decide +kernel)
theorem lo_law_due_3 : Loc (defScope s_law_due) "_law_counts" := by first | exact Or.inl (by decide +kernel) | exact Or.inr (by decide +kernel)
theorem lo_law_due_4 : Loc (defScope s_law_due) "_law_rules" := by first | exact Or.inl (by decide +kernel) | exact Or.inr (by decide +kernel)
theorem lo_law_due_5 : Loc (defScope s_law_due) "_law_makers_here" := by first | exact Or.inl (by decide +kernel) | exact Or.inr (by decide +kernel)
theorem lo_law_due_7 : Loc (defScope s_law_due) "_law_maker" := by first | exact Or.inl (by decide +kernel) | exact Or.inr (by decide +kernel)
theorem lo_law_due_8 : Loc (defScope s_law_due) "_law_kind" := by first | exact Or.inl (by decide +kernel) | exact Or.inr (by decide +kernel)
theorem lo_law_due_9 : Loc (defScope s_law_due) "_law_parts" := by first | exact Or.inl (by decide +kernel) | exact Or.inr (by decide +kernel)
theorem lo_law_due_10 : Loc (defScope s_law_due) "_law_rows" := by first | exact Or.inl (by decide +kernel) | exact Or.inr (by decide +kernel)
theorem lo_law_due_11 : Loc (defScope s_law_due) "_law_seen" := by first | exact Or.inl (by decide +kernel) | exact Or.inr (by decide +kernel)
theorem lo_law_due_12 : Loc (defScope s_law_due) "_law_row" := by first | exact Or.inl (by decide +kernel) | exact Or.inr (by decide +kernel)
theorem lo_law_due_13 : Loc (defScope s_law_due) "_law_item" := by first | exact Or.inl (by decide +kernel) | exact Or.inr (by decide +kernel)
theorem lo_law_due_14 : Loc (defScope s_law_due) "_law_wrong" := by first | exact Or.inl (by decide +kernel) | exact Or.inr (by decide +kernel)
theorem ok_law_due (T : Txt K mg) : FnOk P w K mg base (L2.CX P w) 2 T.a_law_due T.d_law_due ["_law_wood_here", "_law_printer_here"] spPrDue := by
  refine T.F_law_due.okX sc_law_due (fun vs H Q E h => ?_) (fun cdv A outer s H vs Q E hr h => ?_)
  · obtain ⟨_, _, _, _, rfl, _⟩ := h
    rfl
  obtain ⟨wd, r, wv, v, rfl, rw1, ok, rv, rb, lsg, q⟩ := h
  refine ⟨_, (pss_cons (ps_asg (uv 1 (hv := vi_law_due_1)) (pg_tup rfl (pgs_cons (pg_name (i := 2) sc_law_due.nd rfl lo_law_due_2) (pgs_cons (pg_name (i := 3) sc_law_due.nd rfl lo_law_due_3) (pgs_cons (pg_name (i := 4) sc_law_due.nd rfl lo_law_due_4) pgs_nil)))))
      (pss_cons (ps_set (i := 5) sc_law_due.nd rfl lo_law_due_5 (pe_callD (ok_law_makers T) (hr.mono (by decide)) rfl T.m_law_makers T.F_law_makers.kp T.b_law_makers .nil (fun σ => passAt (takes_of rfl rfl rfl rfl) σ) (pa_cons (uv 0 (hv := vi_law_due_0)) pa_nil)))
      (pss_cons (ps_setLc (i := 6) (own := [("_law_sign", 15)]) (g := gName 15) rfl sc_law_due.nd rfl rfl (sw_true rfl rfl rfl (by decide +kernel)) (ui_seq (uv 2 (hv := vi_law_due_2))) (blkOk_by (own := [("_law_sign", 15)]) (N := N_law_due) (sc := defScope s_law_due) (by decide +kernel)) (fun _ _ _ _ _ => (pg_name (i := 15) sc_law_due.nd rfl (by first | exact Or.inl rfl | exact Or.inr rfl))) (fun _ _ _ _ _ => (pts_one (PW.pt (pw_or (pt_cmpR (show OpR _ (compareOp .In) (uIn K false) from uo_in) (uv 15) pe_str rfl) (pw_or1 (pt_cmpR uo_gt (pe_m1 PySem.F.slot_str_count PySem.F.type_str_count mt_count (uv 2) (uv 15)) pe_int (nomark _))))))) (fun _ _ _ _ _ => (uv 15)))
      (pss_cons (ps_if (PW.pt (pw_or (pt_cmpR op_eq (uv 2 (hv := vi_law_due_2)) pe_str (nomark _)) (pw_or (pt_cmpR uo_gt (pe_callB uk_len rfl T.z_len boot_len (pa_cons (uv 2 (hv := vi_law_due_2)) pa_nil)) pe_int (nomark _)) (pw_or1 (pt_cmpR (op_neD hr.units) (uv 6 (hv := vi_law_due_6)) (pe_lst pa_nil) (nomark _)))))) (pss_one (ps_ret (pe_tup (pa_cons pe_str (pa_cons pe_str pa_nil))))) pss_nil)
      (pss_cons (ps_if (PW.pt (pw_or (pt_cmpR op_ne (pe_callB uk_len rfl T.z_len boot_len (pa_cons (uv 3 (hv := vi_law_due_3)) pa_nil)) (pe_callB uk_len rfl T.z_len boot_len (pa_cons (uv 0 (hv := vi_law_due_0)) pa_nil)) (nomark _)) (pw_or1 (pt_cmpR (op_neD hr.units) (pe_lc (own := [("_law_count", 16)]) (g := gName 16) rfl sc_law_due.nd (ui_seq (uv 3 (hv := vi_law_due_3))) (blkOk_by (own := [("_law_count", 16)]) (N := N_law_due) (sc := defScope s_law_due) (by decide +kernel)) (fun _ _ _ _ _ => (pg_name (i := 16) sc_law_due.nd rfl (by first | exact Or.inl rfl | exact Or.inr rfl))) (fun _ _ _ _ _ => (pts_one (pt_cmpR (show OpR _ (compareOp .NotIn) (uIn K true) from uo_notIn) (uv 16) (pe_tup (pa_cons pe_int (pa_cons pe_int (pa_cons pe_int pa_nil)))) rfl))) (fun _ _ _ _ _ => (uv 16))) (pe_lst pa_nil) (nomark _))))) (pss_one (ps_ret (pe_tup (pa_cons pe_str (pa_cons pe_str pa_nil))))) pss_nil)
      (pss_cons (ps_if (pt_cmpR op_ne (pe_callB uk_len rfl T.z_len boot_len (pa_cons (uv 4 (hv := vi_law_due_4)) pa_nil)) (pe_callB uk_len rfl T.z_len boot_len (pa_cons (uv 5 (hv := vi_law_due_5)) pa_nil)) (nomark _)) (pss_one (ps_ret (pe_tup (pa_cons pe_str (pa_cons pe_str pa_nil))))) pss_nil)
      (pss_cons (ps_for (passes_of rfl) rfl (pi_zipN rfl T.z_zip (pa_cons (uv 5) (pa_cons (uv 4) pa_nil))) (pg_tup rfl (pgs_cons (pg_tup rfl (pgs_cons (pg_name (i := 7) sc_law_due.nd rfl lo_law_due_7) (pgs_cons (pg_name (i := 8) sc_law_due.nd rfl lo_law_due_8) (pgs_cons (pg_name (i := 9) sc_law_due.nd rfl lo_law_due_9) pgs_nil)))) (pgs_cons (pg_name (i := 10) sc_law_due.nd rfl lo_law_due_10) pgs_nil))) (pss_cons (ps_if (pt_cmpR op_ne (pe_callB uk_len rfl T.z_len boot_len (pa_cons (uv 10 (hv := vi_law_due_10)) pa_nil)) (pe_ix ux_seq (uv 3 (hv := vi_law_due_3)) (uv 8 (hv := vi_law_due_8)) (fun _ _ => rfl)) (nomark _)) (pss_one (ps_ret (pe_tup (pa_cons pe_str (pa_cons (uv 7 (hv := vi_law_due_7)) pa_nil))))) pss_nil)
      (pss_cons (ps_set (i := 11) sc_law_due.nd rfl lo_law_due_11 (pe_lst pa_nil))
      (pss_one (ps_for (passes_of rfl) rfl (ui_seq (uv 10 (hv := vi_law_due_10))) (pg_name (i := 12) sc_law_due.nd rfl lo_law_due_12) (pss_one (ps_for (passes_of rfl) rfl (ui_seq (uv 12 (hv := vi_law_due_12))) (pg_name (i := 13) sc_law_due.nd rfl lo_law_due_13) (pss_cons (ps_set (i := 14) sc_law_due.nd rfl lo_law_due_14 (pe_callD (ok_law_wrong_item T) (hr.mono (by decide)) rfl T.m_law_wrong_item T.F_law_wrong_item.kp T.b_law_wrong_item .nil (fun σ => passAt (takes_of rfl rfl rfl rfl) σ) (pa_cons (uv 13 (hv := vi_law_due_13)) (pa_cons (uv 2 (hv := vi_law_due_2)) (pa_cons (pe_lc (own := [("_law_part", 17)]) (g := gName 17) rfl sc_law_due.nd (ui_seq (uv 9 (hv := vi_law_due_9))) (blkOk_by (own := [("_law_part", 17)]) (N := N_law_due) (sc := defScope s_law_due) (by decide +kernel)) (fun _ _ _ _ _ => (pg_name (i := 17) sc_law_due.nd rfl (by first | exact Or.inl rfl | exact Or.inr rfl))) (fun _ _ _ _ _ => pts_nil) (fun _ _ _ _ _ => (pe_ix (show IxR _ (uIx K) from ux_seq) (uv 3) (uv 17) (fun _ _ => rfl)))) (pa_cons (uv 11 (hv := vi_law_due_11)) pa_nil))))))
      (pss_cons (ps_if (pt_cmpR op_ne (uv 14 (hv := vi_law_due_14)) pe_str (nomark _)) (pss_one (ps_ret (pe_tup (pa_cons (uv 14 (hv := vi_law_due_14)) (pa_cons (uv 7 (hv := vi_law_due_7)) pa_nil))))) pss_nil)
      (pss_one (ps_expr (pe_bm PySem.F.plainAttrs_list PySem.F.slot_list_append PySem.F.type_list_append mt_append (uv 11 (hv := vi_law_due_11)) (pa_cons (uv 13 (hv := vi_law_due_13)) pa_nil)))))))))))))
      (pss_one (ps_ret pe_non))))))))), ?_⟩
  obtain ⟨wa, wx, rfl, hwa, rs⟩ := id rw1.tupI
  have lx : wx.length = wd.length := by rw [rs.len, List.length_map]
  obtain ⟨a, c, b, xs, rfl, ha, hc, hb, rx⟩ := pr_at rv
  have lc0 : (r.2.1.map V.int).length = r.2.1.length := List.length_map _
  have rc := rb.counts
  have rl := rb.lets
  have hl2 : r.1.length ≤ 1000000 := Nat.le_trans rl (by decide)
  have fin : ∀ {H2 : Hp} {p : Addr} {x y : Str}, Ex H H2 → H2 p = none → duePr wd r = some (x, y) → Q (.ref p) (upd H2 p (.tup [.str x, .str y])) := fun e hp hd => q _ _ (e.trans (Ex.new hp)) (by rw [hd]; exact Rep.two upd_same (Rep.s _) (Rep.s _))
  walk_at "go"
  refine g_tup3 ha ?_
  walk_at "go"
  refine ⟨wd, _, rfl, rw1, ok, fun ml H1 us e1 hml hDu => ?_⟩
  have lus := hDu.1
  have hwa1 := e1 _ _ hwa
  have hc1 := e1 _ _ hc
  have hb1 := e1 _ _ hb
  walk_at "go"
  refine g_seqSs ?_
  walk_at "go"
  refine ⟨_, rfl, fun D hD => ?_⟩
  refine lc_it walk_str (fun i H2 => Ex H1 H2 ∧ ∃ ns : List Nat, H2 D = some (.lst (ns.map fun c => V.str (one c))) ∧ ns.length ≤ i ∧ (∀ c ∈ ns, c ∈ r.1.cps.toList) ∧ ns.isEmpty = (r.1.cps.toList.take i).all fun c => !badL r.1 c) ⟨Ex.new hD, [], upd_same, Nat.le_refl _, (fun c h => nomatch h), rfl⟩ (fun i H2 _ h => trivial) ?_ ?_
  · rintro i x H2 H2' hi ⟨e2, ns, hns, lns, mns, en⟩ ⟨rfl, c, hc, rfl⟩
    have hc2 : r.1.cps.toList[i]? = some c := by simpa using hc
    have hi2 : i < r.1.length := hi
    have mc := List.mem_of_getElem? hc2
    have lz : (ns.map fun c => V.str (one c)).length < sizeLine := Nat.lt_of_le_of_lt (by rw [List.length_map]; omega : (ns.map fun c => V.str (one c)).length ≤ 1000) (by decide)
    have c256 : c < 256 := by
      rcases lsg c mc with h | h
      · have := signL_low h
        omega
      · omega
    walk_at "go"
    refine ⟨rfl, ?_⟩
    walk_at "go"
    refine g_inS rfl ?_
    walk_at "go"
    have app : badL r.1 c = true → Ex H1 (upd H2' D (.lst (ns.map (fun c => V.str (one c)) ++ [V.str (one c)]))) ∧ ∃ ms : List Nat, (upd H2' D (.lst (ns.map (fun c => V.str (one c)) ++ [V.str (one c)]))) D = some (.lst (ms.map fun c => V.str (one c))) ∧ ms.length ≤ i + 1 ∧ (∀ c ∈ ms, c ∈ r.1.cps.toList) ∧ ms.isEmpty = (r.1.cps.toList.take (i + 1)).all fun c => !badL r.1 c := fun k => ⟨e2.at_new hD, ns ++ [c], by rw [upd_same, List.map_append]; rfl, by rw [List.length_append]; exact Nat.succ_le_succ lns, fun d hd => by
      rcases List.mem_append.1 hd with hd | hd
      · exact mns d hd
      · rw [List.mem_singleton.1 hd]
        exact mc, by rw [take_at hc2, all_snoc, empty_snoc, k, Bool.not_true, Bool.and_false]⟩
    refine i_d (fun k1 => ?_) fun k1 => ?_
    · have k2 : c = 32 ∨ c = 10 := by
        have k3 : c ∈ [32, 10] := k1
        simpa using k3
      walk_at "go"
      exact ⟨_, hns, lz, app (by unfold badL; rw [decide_eq_true k2, Bool.true_or])⟩
    · have k2 : ¬ (c = 32 ∨ c = 10) := fun z => k1 (show c ∈ [32, 10] by simpa using z)
      walk_at "go"
      refine ⟨_, _, rfl, rfl, ?_⟩
      rw [count_one (by omega) c256]
      walk_at "go"
      refine i_d (fun k3 => ?_) fun k3 => ?_
      · walk_at "go"
        exact ⟨_, hns, lz, app (by unfold badL; rw [decide_eq_true (show 1 < r.1.cps.toList.count c by omega), Bool.or_true])⟩
      · exact ⟨e2, ns, hns, by omega, mns, by
          have kb : badL r.1 c = false := by unfold badL; rw [decide_eq_false k2, decide_eq_false (by omega)]; rfl
          rw [en, take_at hc2, all_snoc, kb, Bool.not_false, Bool.and_true]⟩
  rintro H2 ⟨e2, ns, hns, lns, mns, en⟩
  rw [show r.1.cps.size = r.1.cps.toList.length by simp, List.take_length] at en
  have el : ltOk r.1 = (decide (1 ≤ r.1.length ∧ r.1.length ≤ 9) && ns.isEmpty) := by rw [ltOk_law lsg, en]
  have e12 := e1.trans e2
  have noL : ltOk r.1 = false → duePr wd r = some (("letters" : Str), ("" : Str)) := fun k => if_neg (by rw [k]; exact Bool.false_ne_true)
  walk_at "go"
  refine i_eqS (fun c1 => ?_) fun c1 => ?_
  · walk_at "go"
    exact g_new fun p hp => fin e12 hp (noL (by rw [el, decide_eq_false (by rw [c1]; decide)]; rfl))
  have l0 := len_pos c1
  walk_at "go"
  refine g_lenStr hl2 ?_
  walk_at "go"
  refine i_d (fun c2 => ?_) fun c2 => ?_
  · walk_at "go"
    exact g_new fun p hp => fin e12 hp (noL (by rw [el, decide_eq_false (by omega)]; rfl))
  walk_at "go"
  refine g_new fun nl hnl => ?_
  have e3 := Ex.new (o := .lst []) hnl
  refine g_neNil (e3 _ _ hns) upd_same (fun x hx => ?_) ?_
  · obtain ⟨c, hc, rfl⟩ := List.mem_map.1 hx
    exact dpok_str fun d hd => by
      have e : d = c := by simpa [one] using hd
      rw [e]
      rcases lsg c (mns c hc) with h | h
      · have := signL_low h
        omega
      · omega
  have e13 := e12.trans e3
  have e23 := e2.trans e3
  revert e13 e23
  generalize upd H2 nl (.lst []) = H3
  intro e13 e23
  rw [List.isEmpty_map]
  walk_at "go"
  refine i_nb (fun c3 => ?_) fun c3 => ?_
  · walk_at "go"
    exact g_new fun p hp => fin e13 hp (noL (by rw [el, c3, Bool.and_false]))
  have yl : ltOk r.1 = true := by rw [el, c3, decide_eq_true (by omega)]; rfl
  have y1 : duePr wd r = if cnts2 wd r.2.1 = true then if r.2.2.length = (tabFrom 0 wd).length then dueRps r.1 r.2.1 wd ((tabFrom 0 wd).zip r.2.2) else some ("rules", "") else some ("counts", "") := if_pos yl
  have noC : cnts2 wd r.2.1 = false → duePr wd r = some (("counts" : Str), ("" : Str)) := fun k => y1.trans (if_neg (by rw [k]; exact Bool.false_ne_true))
  have hwa3 := e23 _ _ hwa1
  have hc3 := e23 _ _ hc1
  have hb3 := e23 _ _ hb1
  have hml3 := e23 _ _ hml
  walk_at "go"
  refine i_neI (fun c4 => ?_) fun c4 => ?_
  · walk_at "go"
    exact g_new fun p hp => fin e13 hp (noC (by unfold cnts2; rw [decide_eq_false (by omega)]; rfl))
  walk_at "go"
  refine g_seqTs ?_
  walk_at "go"
  refine ⟨_, rfl, ⟨_, sqT hc3⟩, fun D2 hD2 => ?_⟩
  refine lc_it walk_tup (fun i H4 => Ex H3 H4 ∧ ∃ ns : List Int, H4 D2 = some (.lst (ns.map V.int)) ∧ ns.length ≤ i ∧ ns.isEmpty = (r.2.1.take i).all fun c => decide (0 ≤ c ∧ c ≤ 2)) ⟨Ex.new hD2, [], upd_same, Nat.le_refl _, rfl⟩ (fun i H4 _ h => sqT (h.1 _ _ hc3)) ?_ ?_
  · rintro i x H4 H4' hi ⟨e4, ns, hns, lns, en⟩ ⟨rfl, hy⟩
    rw [List.getElem?_map] at hy
    cases ec : r.2.1[i]? with
    | none => rw [ec] at hy; cases hy
    | some n =>
      rw [ec] at hy
      cases hy
      have lz : (ns.map V.int).length < sizeLine := Nat.lt_of_le_of_lt (by rw [List.length_map]; omega : (ns.map V.int).length ≤ 1000) (by decide)
      walk_at "go"
      refine ⟨rfl, ?_⟩
      walk_at "go"
      refine g_new fun p hp => ?_
      have e5 := Ex.new (o := .tup [.int 0, .int 1, .int 2]) hp
      refine g_inT3n upd_same ?_
      walk_at "go"
      refine i_n (fun k1 => ?_) fun k1 => ?_
      · walk_at "go"
        exact ⟨_, e5 _ _ hns, lz, (e4.trans e5).at_new hD2, ns ++ [n], by rw [upd_same, List.map_append]; rfl, by rw [List.length_append]; exact Nat.succ_le_succ lns, by rw [take_at ec, all_snoc, empty_snoc, decide_eq_false k1, Bool.and_false]⟩
      · exact ⟨e4.trans e5, ns, e5 _ _ hns, by omega, by rw [en, take_at ec, all_snoc, decide_eq_true k1, Bool.and_true]⟩
  rintro H4 ⟨e4, ns2, hns2, lns2, en2⟩
  rw [lc0, List.take_length] at en2
  walk_at "go"
  refine g_new fun nl2 hnl2 => ?_
  refine g_neNil (Ex.new hnl2 _ _ hns2) upd_same dpok_ints ?_
  have e14 := e13.trans (e4.trans (Ex.new (o := .lst []) hnl2))
  have e34 := e4.trans (Ex.new (o := .lst []) hnl2)
  revert e14 e34
  generalize upd H4 nl2 (.lst []) = H5
  intro e15 e35
  rw [List.isEmpty_map, en2]
  walk_at "go"
  refine i_nb (fun c5 => ?_) fun c5 => ?_
  · walk_at "go"
    exact g_new fun p hp => fin e15 hp (noC (by unfold cnts2; rw [c5]; exact Bool.and_false _))
  have cok : cnts2 wd r.2.1 = true := by
    unfold cnts2
    rw [c5, decide_eq_true (by omega)]
    rfl
  rw [if_pos cok] at y1
  have lxs : xs.length = r.2.2.length := by rw [rx.len, List.length_map]
  have hb5 := e35 _ _ hb3
  have hml5 := e35 _ _ hml3
  walk_at "go"
  refine i_neI (fun c6 => ?_) fun c6 => ?_
  · walk_at "go"
    exact g_new fun p hp => fin e15 hp (y1.trans (if_neg (by omega)))
  rw [if_pos (by omega)] at y1
  walk_at "go"
  refine ⟨false, true, ml, b, _, _, rfl, sqL hml5, sqT hb5, ?_⟩
  refine for_it (walk_zipS (k1 := false) (k2 := true) (by omega)) (fun i σ H6 => (∃ o7 o8 o9 o10 o11 o12 o13 o14, σ = [some (.ref wa), some (.ref a), some (.str r.1), some (.ref c), some (.ref b), some (.ref ml), some (.ref D), o7, o8, o9, o10, o11, o12, o13, o14, none, none, none]) ∧ Ex H5 H6 ∧ duePr wd r = dueRps r.1 r.2.1 wd (((tabFrom 0 wd).zip r.2.2).drop i)) ⟨⟨none, none, none, none, none, none, none, none, rfl⟩, Ex.refl _, y1⟩ (fun i σ H6 _ h => ⟨sqL (h.2.1 _ _ hml5), sqT (h.2.1 _ _ hb5)⟩) ?_ ?_
  · rintro i x σ H6 H6' hi ⟨⟨o7, o8, o9, o10, o11, o12, o13, o14, rfl⟩, e6, hE⟩ ⟨Tp, x, y, rfl, hTp, rfl, hx, hy⟩
    replace hx : us[i]? = some x := hx
    replace hy : xs[i]? = some y := hy
    obtain ⟨rl1, erl, ry⟩ := rx.get hy
    rw [List.getElem?_map] at erl
    cases er : r.2.2[i]? with
    | none => rw [er] at erl; cases erl
    | some rl0 =>
    rw [er] at erl
    cases erl
    obtain ⟨e, et, p1, t1, rfl, hp1, ht1⟩ := hDu.2 i x hx
    rw [dueOf_vals] at ht1
    have he := List.mem_of_getElem? et
    obtain ⟨ek, dl, d2, din⟩ := dueOf_in ok he
    have ldo : ((dueOf wd e).map V.int).length = (dueOf wd e).length := List.length_map _
    rw [drop_at (zip_at et er), dueRps] at hE
    have q0r : ∀ s, dueRp r.1 r.2.1 wd e rl0 = some s → duePr wd r = some (s, e.2.1) := fun s hs => by rw [hE, hs]; rfl
    obtain ⟨sa, ss, rfl, hsa, rss⟩ := Rep.tupI ry
    have lss : ss.length = rl0.length := by rw [rss.len, List.length_map]
    have rB := rb.rule rl0 (List.mem_of_getElem? er)
    have rB1 := rB.rows
    have e7 := Ex.new (o := .tup [.ref p1, .ref sa]) hTp
    have e67 := e6.trans e7
    have eH7 := e15.trans e67
    have e17 := e23.trans (e35.trans e67)
    refine g_tup2 upd_same ?_
    refine g_tup3 (e17 _ _ hp1) ?_
    have hsa7 := eH7 _ _ hsa
    walk_at "go"
    refine g_ixT (eH7 _ _ hc) (cnt_at (by omega) (by omega)) ?_
    walk_at "go"
    unfold dueRp at q0r hE
    refine i_neI (fun c7 => ?_) fun c7 => ?_
    · walk_at "go"
      exact g_new fun p hp => fin eH7 hp (q0r _ (if_neg (by omega)))
    have c8 : (rl0.length : Int) = cntAt r.2.1 e.1 := by omega
    rw [if_pos c8] at q0r hE
    walk_at "go"
    refine g_new fun sl hsl => ?_
    have e8 := Ex.new (o := .lst []) hsl
    have eH8 := eH7.trans e8
    have e18 := e17.trans e8
    have e68 := e67.trans e8
    walk_at "go"
    refine g_seqTs ?_
    walk_at "go"
    refine ⟨_, rfl, ⟨_, sqT (eH8 _ _ hsa)⟩, ?_⟩
    refine for_it walk_tup (fun j σ Hb => (∃ o12 o13 o14, σ = [some (.ref wa), some (.ref a), some (.str r.1), some (.ref c), some (.ref b), some (.ref ml), some (.ref D), some (.str e.2.1), some (.int (e.1 : Nat)), some (.ref t1), some (.ref sa), some (.ref sl), o12, o13, o14, none, none, none]) ∧ Ex H6 Hb ∧ ∃ (S : List Itm) (svs : List V), Hb sl = some (.lst svs) ∧ Reps Hb (S.map itD) svs ∧ (∀ i ∈ S, ItB i) ∧ S.length + (rl0.drop j).flatten.length ≤ 1000 ∧ dueIts r.1 (ownP r.2.1 wd e) [] rl0.flatten = dueIts r.1 (ownP r.2.1 wd e) (S.flatMap bxs) (rl0.drop j).flatten) ⟨⟨_, _, _, rfl⟩, e7.trans e8, [], [], upd_same, by simp only [List.map, Reps], (fun i h => nomatch h), by have := rB.all; rw [List.drop_zero, List.length_nil]; omega, rfl⟩ (fun j σ Hb _ h => sqT ((e15.trans (e6.trans h.2.1)) _ _ hsa)) ?_ ?_
    · rintro j x σ Hb Hb' hj ⟨⟨o12, o13, o14, rfl⟩, eb, S, svs, hsb, rS, bS, lS, hE2⟩ ⟨rfl, hx⟩
      replace hx : ss[j]? = some x := hx
      obtain ⟨sm, esm, rsm⟩ := rss.get hx
      rw [List.getElem?_map] at esm
      cases es : rl0[j]? with
      | none => rw [es] at esm; cases esm
      | some s0 =>
      rw [es] at esm
      cases esm
      obtain ⟨ta, ts, rfl, hta, rts⟩ := Rep.tupI rsm
      have lts : ts.length = s0.length := by rw [rts.len, List.length_map]
      have ms0 := List.mem_of_getElem? es
      have l0 := rB.row s0 ms0
      rw [drop_at es, List.flatten_cons] at hE2 lS
      rw [List.length_append] at lS
      have eHb := e15.trans (e6.trans eb)
      have htab := eHb _ _ hta
      walk_at "go"
      refine g_seqTs ?_
      walk_at "go"
      refine ⟨_, rfl, ⟨_, sqT htab⟩, ?_⟩
      refine for_it walk_tup (fun k σ Hc => (∃ o13 o14, σ = [some (.ref wa), some (.ref a), some (.str r.1), some (.ref c), some (.ref b), some (.ref ml), some (.ref D), some (.str e.2.1), some (.int (e.1 : Nat)), some (.ref t1), some (.ref sa), some (.ref sl), some (.ref ta), o13, o14, none, none, none]) ∧ Ex H6 Hc ∧ ∃ (S : List Itm) (svs : List V), Hc sl = some (.lst svs) ∧ Reps Hc (S.map itD) svs ∧ (∀ i ∈ S, ItB i) ∧ S.length + ((s0.drop k).length + (rl0.drop (j + 1)).flatten.length) ≤ 1000 ∧ dueIts r.1 (ownP r.2.1 wd e) [] rl0.flatten = dueIts r.1 (ownP r.2.1 wd e) (S.flatMap bxs) (s0.drop k ++ (rl0.drop (j + 1)).flatten)) ⟨⟨_, _, rfl⟩, eb, S, svs, hsb, rS, bS, lS, hE2⟩ (fun k σ Hc _ h => sqT ((e15.trans (e6.trans h.2.1)) _ _ hta)) ?_ ?_
      · rintro k x σ Hc Hc' hk ⟨⟨o13, o14, rfl⟩, ec, S, svs, hsc, rS, bS, lS, hE3⟩ ⟨rfl, hx⟩
        replace hx : ts[k]? = some x := hx
        obtain ⟨tm, etm, rtm⟩ := rts.get hx
        rw [List.getElem?_map] at etm
        cases ett : s0[k]? with
        | none => rw [ett] at etm; cases etm
        | some t0 =>
        rw [ett] at etm
        cases etm
        rw [drop_at ett, List.cons_append, dueIts] at hE3
        rw [drop_at ett, List.length_cons] at lS
        have eHc := e15.trans (e6.trans ec)
        have ib := rB.item s0 ms0 t0 (List.mem_of_getElem? ett)
        have ht1c := (e23.trans (e35.trans (e6.trans ec))) _ _ ht1
        have hcc := eHc _ _ hc
        walk_at "go"
        refine g_seqTs ?_
        walk_at "go"
        refine ⟨_, rfl, ⟨_, sqT ht1c⟩, fun D3 hD3 => ?_⟩
        refine lc_mapE walk_tup (fun u _ v => ∃ n, (dueOf wd e)[u]? = some n ∧ v = V.int (cntAt r.2.1 n)) (by omega) hD3 (fun _ _ _ _ _ r => r) (fun H8 e => sqT (e _ _ ht1c)) ?_ ?_
        · rintro u y H8 H9 P N hu e8 ⟨rfl, hy⟩ k
          rw [List.getElem?_map] at hy
          cases en : (dueOf wd e)[u]? with
          | none => rw [en] at hy; cases hy
          | some n =>
            rw [en] at hy
            cases hy
            have din' := din n (List.mem_of_getElem? en)
            walk_at "go"
            refine ⟨rfl, ?_⟩
            walk_at "go"
            refine g_ixT (e8 _ _ hcc) (cnt_at din'.1 (by omega)) ?_
            exact k _ _ (Ex.refl _) ⟨n, en, rfl⟩
        intro H8 oacc e8 hown hlo hro
        rw [ldo] at hlo
        have eo := acc_map hlo hro
        have eo2 : oacc = (ownP r.2.1 wd e).map V.int := by rw [eo]; unfold ownP; rw [List.map_map]; rfl
        rw [eo2] at hown
        have lown : (ownP r.2.1 wd e).length ≤ 1000 := by unfold ownP; rw [List.length_map]; omega
        walk_at "go"
        refine ⟨x, t0, r.1, D3, sl, ownP r.2.1 wd e, S, svs, rfl, rtm.ex (eHc.trans e8), ib, rl, hown, lown, e8 _ _ hsc, rS.ex e8, by omega, bS, fun H9 e9 => ?_⟩
        have e69 := ec.trans (e8.trans e9)
        have lsv : svs.length ≤ 1000 := by rw [rS.len, List.length_map]; omega
        walk_at "go"
        refine i_neS (fun c9 => ?_) fun c9 => ?_
        · walk_at "go"
          refine g_new fun p hp => fin (e15.trans (e6.trans e69)) hp ?_
          cases ed : dueIt r.1 (ownP r.2.1 wd e) (S.flatMap bxs) t0 with
          | none => exact absurd (by rw [ed]; rfl) c9
          | some y =>
            rw [ed] at hE3
            exact q0r y hE3
        · have dn : dueIt r.1 (ownP r.2.1 wd e) (S.flatMap bxs) t0 = none := by
            cases ed : dueIt r.1 (ownP r.2.1 wd e) (S.flatMap bxs) t0 with
            | none => rfl
            | some y =>
              have m := dueIt_word ed
              rw [ed] at c9
              have e0 : y = "" := c9
              rw [e0] at m
              exact absurd m (by decide)
          rw [dn] at hE3
          have hs9 := e9 _ _ (e8 _ _ hsc)
          walk_at "go"
          refine g_app (e9 _ _ (e8 _ _ hsc)) (Nat.lt_of_le_of_lt lsv (by decide)) ?_
          have eF : Ex H6 (upd H9 sl (.lst (svs ++ [x]))) := e69.at_new (e7.free hsl)
          refine ⟨⟨_, _, rfl⟩, eF, S ++ [t0], svs ++ [x], upd_same, reps_snoc ?_ ((rtm.ex (e15.trans e6)).ex eF), fun i hi => ?_, by rw [List.length_append, List.length_singleton]; omega, ?_⟩
          · exact Reps.tkm ((e8.trans e9).tk.trans (tk_put (e9 _ _ (e8 _ _ hsc)))) it_hard rS
          · rcases List.mem_append.1 hi with hi | hi
            · exact bS i hi
            · rw [List.mem_singleton.1 hi]
              exact ib
          · rw [List.flatMap_append, show [t0].flatMap bxs = bxs t0 from by simp]
            exact hE3
      · rintro σ Hc ⟨⟨o13, o14, rfl⟩, ec, S, svs, hsc, rS, bS, lS, hE3⟩
        rw [lts, List.drop_length, List.nil_append] at hE3
        exact ⟨⟨_, _, _, rfl⟩, ec, S, svs, hsc, rS, bS, by omega, hE3⟩
    · rintro σ Hb ⟨⟨o12, o13, o14, rfl⟩, eb, S, svs, hsb, rS, bS, lS, hE2⟩
      rw [lss, List.drop_length] at hE2
      have hn : dueIts r.1 (ownP r.2.1 wd e) [] rl0.flatten = none := hE2
      rw [hn] at hE
      exact ⟨⟨_, _, _, _, _, _, _, _, rfl⟩, e6.trans eb, hE⟩
  · rintro σ H6 ⟨⟨o7, o8, o9, o10, o11, o12, o13, o14, rfl⟩, e6, hE⟩
    rw [List.drop_eq_nil_of_le (by rw [List.length_zip]; omega), dueRps] at hE
    walk_at "go"
    exact q _ _ (e15.trans e6) (by rw [hE]; exact Rep.n)
theorem vi_law_odd_letters_0 : Vis (defScope s_law_odd_letters) "_law_box_here" := by first | exact Or.inl (by decide +kernel) | exact Or.inr (Or.inl (by decide +kernel)) | exact Or.inr (Or.inr (by decide +kernel))
theorem vi_law_odd_letters_1 : Vis (defScope s_law_odd_letters) "_law_letters_here" := by first | exact Or.inl (by decide +kernel) | exact Or.inr (Or.inl (by decide +kernel)) | exact Or.inr (Or.inr (by decide +kernel))
theorem vi_law_odd_letters_2 : Vis (defScope s_law_odd_letters) "_law_at" := by first | exact Or.inl (by decide +kernel) | exact Or.inr (Or.inl (by decide +kernel)) | exact Or.inr (Or.inr (by decide +kernel))
theorem vi_law_odd_letters_3 : Vis (defScope s_law_odd_letters) "_law_form" := by first | exact Or.inl (by decide +kernel) | exact Or.inr (Or.inl (by decide +kernel)) | exact Or.inr (Or.inr (by decide +kernel))
theorem vi_law_odd_letters_4 : Vis (defScope s_law_odd_letters) "_law_more" := by first | exact Or.inl (by decide +kernel) | exact Or.inr (Or.inl (by decide +kernel)) | exact Or.inr (Or.inr (by decide +kernel))
theorem lo_law_odd_letters_4 : Loc (defScope s_law_odd_letters) "_law_more" := by first | exact Or.inl (by decide +kernel) | exact Or.inr (by decide +kernel)
theorem ok_law_odd_letters (T : Txt K mg) : FnOk P w K mg base (L2.CX P w) 2 T.a_law_odd_letters T.d_law_odd_letters ["_law_box_here", "_law_letters_here"] spOddLets := by
  refine T.F_law_odd_letters.okX sc_law_odd_letters (fun vs H Q E h => ?_) (fun cdv A outer s H vs Q E hr h => ?_)
  · obtain ⟨_, _, _, rfl, _⟩ := h
    rfl
  obtain ⟨p, ls, n, rfl, hb, ln, hn, q⟩ := h
  refine ⟨_, (pss_cons (ps_par (i := 2) (j := 3) rfl sc_law_odd_letters.nd rfl rfl (by decide) rfl rfl (pa_cons (pe_callD (ok_law_take T) (hr.mono (by decide)) rfl T.m_law_take T.F_law_take.kp T.b_law_take .nil (fun σ => passAt (takes_of rfl rfl rfl rfl) σ) (pa_cons (uv 0 (hv := vi_law_odd_letters_0)) (pa_cons (pe_op uo_add (pe_callB uk_len rfl T.z_len boot_len (pa_cons (uv 1 (hv := vi_law_odd_letters_1)) pa_nil)) pe_int) pa_nil))) (pa_cons (pe_callD (ok_law_take T) (hr.mono (by decide)) rfl T.m_law_take T.F_law_take.kp T.b_law_take .nil (fun σ => passAt (takes_of rfl rfl rfl rfl) σ) (pa_cons (uv 0 (hv := vi_law_odd_letters_0)) (pa_cons pe_int pa_nil))) pa_nil)) rfl)
      (pss_cons (ps_if (pt_cmpR uo_lt (uv 3 (hv := vi_law_odd_letters_3)) pe_int (nomark _)) (pss_one (ps_ret (pe_op uo_add (pe_op uo_add (pe_slice us_sl (uv 1 (hv := vi_law_odd_letters_1)) po_none (po_some (uv 2 (hv := vi_law_odd_letters_2)))) (pe_ix ux_seq (pe_lst (pa_cons pe_str (pa_cons pe_str pa_nil))) (uv 3 (hv := vi_law_odd_letters_3)) (fun _ _ => rfl))) (pe_slice us_sl (uv 1 (hv := vi_law_odd_letters_1)) (po_some (uv 2 (hv := vi_law_odd_letters_2))) po_none)))) pss_nil)
      (pss_cons (ps_if (pt_cmpR op_eq (uv 3 (hv := vi_law_odd_letters_3)) pe_int (nomark _)) (pss_one (ps_ret (pe_op uo_add (pe_op uo_add (pe_slice us_sl (uv 1 (hv := vi_law_odd_letters_1)) po_none (po_some (uv 2 (hv := vi_law_odd_letters_2)))) (pe_slice us_sl (uv 1 (hv := vi_law_odd_letters_1)) po_none (po_some pe_int))) (pe_slice us_sl (uv 1 (hv := vi_law_odd_letters_1)) (po_some (uv 2 (hv := vi_law_odd_letters_2))) po_none)))) pss_nil)
      (pss_cons (ps_if (pt_cmpR op_eq (uv 3 (hv := vi_law_odd_letters_3)) pe_int (nomark _)) (pss_cons (ps_set (i := 4) sc_law_odd_letters.nd rfl lo_law_odd_letters_4 (pe_op uo_add (uv 1 (hv := vi_law_odd_letters_1)) (pe_join pe_str (pe_lc (own := [("_law_sign", 5)]) (g := gName 5) rfl sc_law_odd_letters.nd (ui_seq pe_str) (blkOk_by (own := [("_law_sign", 5)]) (N := N_law_odd_letters) (sc := defScope s_law_odd_letters) (by decide +kernel)) (fun _ _ _ _ _ => (pg_name (i := 5) sc_law_odd_letters.nd rfl (by first | exact Or.inl rfl | exact Or.inr rfl))) (fun _ _ _ _ _ => (pts_one (pt_cmpR (show OpR _ (compareOp .NotIn) (uIn K true) from uo_notIn) (uv 5) (uv 1) rfl))) (fun _ _ _ _ _ => (uv 5))))))
      (pss_one (ps_ret (pe_slice us_sl (uv 4 (hv := vi_law_odd_letters_4)) po_none (po_some (pe_ix ux_seq (pe_lst (pa_cons pe_int (pa_cons pe_int pa_nil))) (pe_callD (ok_law_take T) (hr.mono (by decide)) rfl T.m_law_take T.F_law_take.kp T.b_law_take .nil (fun σ => passAt (takes_of rfl rfl rfl rfl) σ) (pa_cons (uv 0 (hv := vi_law_odd_letters_0)) (pa_cons pe_int pa_nil))) (fun _ _ => rfl))))))) pss_nil)
      (pss_one (ps_ret (pe_ix ux_seq (pe_lst (pa_cons (pe_slice us_sl (uv 1 (hv := vi_law_odd_letters_1)) (po_some pe_int) po_none) (pa_cons pe_str pa_nil))) (pe_op uo_sub (uv 3 (hv := vi_law_odd_letters_3)) pe_int) (fun _ _ => rfl)))))))), ?_⟩
  have lm := ln.most
  have hl2 : ls.length ≤ 1000000 := by omega
  walk_at "go"
  refine g_lenStr hl2 ?_
  walk_at "go"
  refine ⟨p, _, rfl, hb, by omega, Nat.lt_of_lt_of_le (Bits.log (n := 30) (show ((ls.length : Int) + 1).natAbs < 2 ^ 30 by omega)) (by decide), fun at_ H1 a0 a1 b1 hb1 => ?_⟩
  walk_at "go"
  refine ⟨p, 6, rfl, hb1, by decide, by decide, fun form H2 f0 f1 b2 hb2 => ?_⟩
  have b12 := b1.trans b2
  obtain ⟨a, rfl⟩ := Int.eq_ofNat_of_zero_le a0
  have la : a ≤ ls.length := by omega
  have fin : ∀ {s : Str} {H' : Hp}, s.length ≤ ls.length + 16 → (∀ c ∈ s.cps.toList, c ∈ ls.cps.toList ∨ c ∈ signL ∨ c = 32 ∨ c = 10) → ((∀ c ∈ s.cps.toList, c ∈ ls.cps.toList ∨ c ≠ 32) ∨ s.length ≤ ls.length + 1) → But p H2 H' → Box H' p → Q (.str s) H' := fun h1 h2 h3 b hb => q _ _ (ln.step h1 h2 h3) (b12.trans b) hb
  have lto := cut_to_len ls a
  have lfr : (cutS ls (some (a : Int)) none).length = ls.length - a := by rw [str_len, cut_from la, List.length_drop, str_len]
  have mto : ∀ c ∈ (cutS ls none (some (a : Int))).cps.toList, c ∈ ls.cps.toList := fun c hc => cut_mem hc
  have mfr : ∀ c ∈ (cutS ls (some (a : Int)) none).cps.toList, c ∈ ls.cps.toList := fun c hc => cut_mem hc
  walk_at "go"
  refine i_d (fun c1 => ?_) fun c1 => ?_
  · walk_at "go"
    refine g_slS hl2 ?_
    walk_at "go"
    refine g_new fun l hl => ?_
    have e3 := Ex.new (o := .lst [.str " ", .str "\n"]) hl
    have hs : ∃ z : Str, z.length = 1 ∧ (∀ c ∈ z.cps.toList, c = 32 ∨ c = 10) ∧ atI [V.str " ", V.str "\n"] form = some (.str z) := by
      rcases (show form = 0 ∨ form = 1 by omega) with rfl | rfl
      · exact ⟨" ", by decide +kernel, by decide +kernel, rfl⟩
      · exact ⟨"\n", by decide +kernel, by decide +kernel, rfl⟩
    obtain ⟨z, lz, mz, ez⟩ := hs
    walk_at "go"
    refine g_ixL upd_same ez ?_
    refine g_addS (by omega) ?_
    walk_at "go"
    refine g_slS hl2 ?_
    refine g_addS (by rw [app_len]; omega) ?_
    refine fin (by rw [app_len, app_len]; omega) (fun c hc => ?_) (.inr (by rw [app_len, app_len]; omega)) (e3.but p) (hb2.ex e3)
    rw [app_list, app_list] at hc
    rcases List.mem_append.1 hc with hc | hc
    · rcases List.mem_append.1 hc with hc | hc
      · exact .inl (mto c hc)
      · exact .inr (.inr (mz c hc))
    · exact .inl (mfr c hc)
  walk_at "go"
  refine i_eqI (fun c2 => ?_) fun c2 => ?_
  · walk_at "go"
    refine g_slS hl2 ?_
    walk_at "go"
    refine g_slS hl2 ?_
    have l1 : (cutS ls none (some (1 : Int))).length ≤ ls.length := cut_le
    have l2 := cut_to_len ls 1
    refine g_addS (by omega) ?_
    walk_at "go"
    refine g_slS hl2 ?_
    refine g_addS (by rw [app_len]; omega) ?_
    have mm : ∀ c ∈ (cutS ls none (some (a : Int)) ++ cutS ls none (some (1 : Int)) ++ cutS ls (some (a : Int)) none).cps.toList, c ∈ ls.cps.toList := fun c hc => by
      rw [app_list, app_list] at hc
      rcases List.mem_append.1 hc with hc | hc
      · rcases List.mem_append.1 hc with hc | hc
        · exact mto c hc
        · exact cut_mem hc
      · exact mfr c hc
    refine fin (by rw [app_len, app_len]; have l3 : (cutS ls none (some (1 : Int))).length ≤ 1 := (by rw [show (1 : Int) = ((1 : Nat) : Int) from rfl, l2]; omega); omega) (fun c hc => .inl (mm c hc)) (.inl fun c hc => .inl (mm c hc)) (But.refl _ _) hb2
  walk_at "go"
  refine i_eqI (fun c3 => ?_) fun c3 => ?_
  · walk_at "go"
    refine g_m1 ?_
    walk_at "go"
    refine g_seqSs ?_
    walk_at "go"
    refine ⟨_, rfl, fun D hD => ?_⟩
    refine lc_it walk_str (fun i H3 => Ex H2 H3 ∧ ∃ ns : List Nat, H3 D = some (.lst (ns.map fun c => V.str (one c))) ∧ ns.length ≤ i ∧ ∀ c ∈ ns, c ∈ moreS.cps.toList) ⟨Ex.new hD, [], upd_same, Nat.le_refl _, (fun c h => nomatch h)⟩ (fun i H3 _ h => trivial) ?_ ?_
    · rintro i x H3 H3' hi ⟨e3, ns, hns, lns, mns⟩ ⟨rfl, c, hc, rfl⟩
      have hc2 : moreS.cps.toList[i]? = some c := by simpa [moreS] using hc
      have hi2 : i < 13 := hi
      have lz : (ns.map fun c => V.str (one c)).length < sizeLine := Nat.lt_of_le_of_lt (by rw [List.length_map]; omega : (ns.map fun c => V.str (one c)).length ≤ 1000) (by decide)
      walk_at "go"
      refine ⟨rfl, ?_⟩
      walk_at "go"
      refine g_inSn rfl ?_
      walk_at "go"
      refine i_n (fun k1 => ?_) fun k1 => ?_
      · walk_at "go"
        refine ⟨_, hns, lz, e3.at_new hD, ns ++ [c], by rw [upd_same, List.map_append]; rfl, by rw [List.length_append]; exact Nat.succ_le_succ lns, fun d hd => ?_⟩
        rcases List.mem_append.1 hd with hd | hd
        · exact mns d hd
        · rw [List.mem_singleton.1 hd]
          exact List.mem_of_getElem? hc2
      · exact ⟨e3, ns, hns, by omega, mns⟩
    rintro H3 ⟨e3, ns, hns, lns, mns⟩
    replace lns : ns.length ≤ 13 := lns
    have hD3 : H3 D = some (.lst ((ns.map one).map V.str)) := by rw [List.map_map]; exact hns
    refine ⟨"", D, ns.map one, rfl, rfl, .inl (sqL hD3), joinB (by omega), ?_⟩
    have ec : (Txt.join "" (ns.map one)).cps.toList = ns := joinOnes ns
    have lj : (Txt.join "" (ns.map one)).length = ns.length := by rw [str_len, ec]
    revert ec lj
    generalize Txt.join "" (ns.map one) = j
    intro ec lj
    refine g_addS (by omega) ?_
    have mj : ∀ c ∈ (ls ++ j).cps.toList, c ∈ ls.cps.toList ∨ (c ∈ signL ∧ c ≠ 32) := fun c hc => by
      rw [app_list] at hc
      rcases List.mem_append.1 hc with hc | hc
      · exact .inl hc
      · rw [ec] at hc
        exact .inr (moreS_sign c (mns c hc))
    have lj2 : (ls ++ j).length ≤ ls.length + 13 := by rw [app_len]; omega
    walk_at "go"
    refine g_new fun l hl => ?_
    have e4 := Ex.new (o := .lst [.int 10, .int 99]) hl
    have nl := (hb2.ex e3).ne hl
    have h4 := @upd_same H3 l (.lst [.int 10, .int 99])
    have hb4 := (hb2.ex e3).ex e4
    revert e4 h4 hb4
    generalize upd H3 l (.lst [.int 10, .int 99]) = H4
    intro e4 h4 hb4
    walk_at "go"
    refine ⟨p, 2, rfl, hb4, by decide, by decide, fun u H5 u0 u1 b5 hb5 => ?_⟩
    have ek : ∃ k : Int, atI [V.int 10, .int 99] u = some (.int k) := by
      rcases (show u = 0 ∨ u = 1 by omega) with rfl | rfl <;> exact ⟨_, rfl⟩
    obtain ⟨k, ek⟩ := ek
    walk_at "go"
    refine g_ixL (b5 _ _ nl h4) ek ?_
    walk_at "go"
    refine g_slS (by omega) ?_
    walk_at "go"
    have lc : (cutS (ls ++ j) none (some k)).length ≤ (ls ++ j).length := cut_le
    refine fin (by omega) (fun c hc => ?_) (.inl fun c hc => ?_) (((e3.trans e4).but p).trans b5) hb5
    · rcases mj c (cut_mem hc) with z | z
      · exact .inl z
      · exact .inr (.inl z.1)
    · rcases mj c (cut_mem hc) with z | z
      · exact .inl z
      · exact .inr z.2
  walk_at "go"
  refine g_slS hl2 ?_
  walk_at "go"
  refine g_new fun l hl => ?_
  have e3 := Ex.new (o := .lst [.str (cutS ls (some 1) none), .str ""]) hl
  have hs : ∃ z : Str, z.length ≤ ls.length ∧ (∀ c ∈ z.cps.toList, c ∈ ls.cps.toList) ∧ atI [V.str (cutS ls (some 1) none), V.str ""] (form - 4) = some (.str z) := by
    rcases (show form = 4 ∨ form = 5 by omega) with rfl | rfl
    · exact ⟨_, cut_le, fun c hc => cut_mem hc, rfl⟩
    · exact ⟨"", Nat.zero_le _, (fun c hc => nomatch hc), rfl⟩
  obtain ⟨z, lz, mz, ez⟩ := hs
  walk_at "go"
  refine g_ixL upd_same ez ?_
  walk_at "go"
  exact fin (by omega) (fun c hc => .inl (mz c hc)) (.inr (by omega)) (e3.but p) (hb2.ex e3)
theorem vi_law_odd_item_0 : Vis (defScope s_law_odd_item) "_law_box_here" := by first | exact Or.inl (by decide +kernel) | exact Or.inr (Or.inl (by decide +kernel)) | exact Or.inr (Or.inr (by decide +kernel))
theorem vi_law_odd_item_1 : Vis (defScope s_law_odd_item) "_law_letters_here" := by first | exact Or.inl (by decide +kernel) | exact Or.inr (Or.inl (by decide +kernel)) | exact Or.inr (Or.inr (by decide +kernel))
theorem vi_law_odd_item_2 : Vis (defScope s_law_odd_item) "_law_item" := by first | exact Or.inl (by decide +kernel) | exact Or.inr (Or.inl (by decide +kernel)) | exact Or.inr (Or.inr (by decide +kernel))
theorem vi_law_odd_item_3 : Vis (defScope s_law_odd_item) "_law_rows" := by first | exact Or.inl (by decide +kernel) | exact Or.inr (Or.inl (by decide +kernel)) | exact Or.inr (Or.inr (by decide +kernel))
theorem vi_law_odd_item_4 : Vis (defScope s_law_odd_item) "_law_own" := by first | exact Or.inl (by decide +kernel) | exact Or.inr (Or.inl (by decide +kernel)) | exact Or.inr (Or.inr (by decide +kernel))
theorem vi_law_odd_item_5 : Vis (defScope s_law_odd_item) "_law_form" := by first | exact Or.inl (by decide +kernel) | exact Or.inr (Or.inl (by decide +kernel)) | exact Or.inr (Or.inr (by decide +kernel))
theorem vi_law_odd_item_6 : Vis (defScope s_law_odd_item) "_law_number" := by first | exact Or.inl (by decide +kernel) | exact Or.inr (Or.inl (by decide +kernel)) | exact Or.inr (Or.inr (by decide +kernel))
theorem vi_law_odd_item_7 : Vis (defScope s_law_odd_item) "_law_other" := by first | exact Or.inl (by decide +kernel) | exact Or.inr (Or.inl (by decide +kernel)) | exact Or.inr (Or.inr (by decide +kernel))
theorem vi_law_odd_item_8 : Vis (defScope s_law_odd_item) "_law_some" := by first | exact Or.inl (by decide +kernel) | exact Or.inr (Or.inl (by decide +kernel)) | exact Or.inr (Or.inr (by decide +kernel))
theorem vi_law_odd_item_9 : Vis (defScope s_law_odd_item) "_law_row" := by first | exact Or.inl (by decide +kernel) | exact Or.inr (Or.inl (by decide +kernel)) | exact Or.inr (Or.inr (by decide +kernel))
theorem lo_law_odd_item_5 : Loc (defScope s_law_odd_item) "_law_form" := by first | exact Or.inl (by decide +kernel) | exact Or.inr (by decide +kernel)
theorem lo_law_odd_item_6 : Loc (defScope s_law_odd_item) "_law_number" := by first | exact Or.inl (by decide +kernel) | exact Or.inr (by decide +kernel)
theorem lo_law_odd_item_8 : Loc (defScope s_law_odd_item) "_law_some" := by first | exact Or.inl (by decide +kernel) | exact Or.inr (by decide +kernel)
theorem lo_law_odd_item_9 : Loc (defScope s_law_odd_item) "_law_row" := by first | exact Or.inl (by decide +kernel) | exact Or.inr (by decide +kernel)
theorem ok_law_odd_item (T : Txt K mg) : FnOk P w K mg base (L2.CX P w) 2 T.a_law_odd_item T.d_law_odd_item ["_law_box_here", "_law_letters_here", "_law_item", "_law_rows", "_law_own"] spOddIt := by
  refine T.F_law_odd_item.okX sc_law_odd_item (fun vs H Q E h => ?_) (fun cdv A outer s H vs Q E hr h => ?_)
  · obtain ⟨_, _, _, _, _, _, _, _, _, rfl, _⟩ := h
    rfl
  obtain ⟨p, r, o, ls, v, i, x, ovs, n, rfl, hb, ln, hn, rv, ni, rx, nx, ho, lo, q⟩ := h
  refine ⟨_, (pss_cons (ps_set (i := 5) sc_law_odd_item.nd rfl lo_law_odd_item_5 (pe_callD (ok_law_take T) (hr.mono (by decide)) rfl T.m_law_take T.F_law_take.kp T.b_law_take .nil (fun σ => passAt (takes_of rfl rfl rfl rfl) σ) (pa_cons (uv 0 (hv := vi_law_odd_item_0)) (pa_cons pe_int pa_nil))))
      (pss_cons (ps_set (i := 6) sc_law_odd_item.nd rfl lo_law_odd_item_6 (pe_ix ux_seq (pe_lst (pa_cons (pe_op uo_sub pe_int pe_int) (pa_cons pe_int (pa_cons pe_int (pa_cons (pe_op uo_sub pe_int pe_int) (pa_cons pe_int (pa_cons pe_int pa_nil))))))) (pe_callD (ok_law_take T) (hr.mono (by decide)) rfl T.m_law_take T.F_law_take.kp T.b_law_take .nil (fun σ => passAt (takes_of rfl rfl rfl rfl) σ) (pa_cons (uv 0 (hv := vi_law_odd_item_0)) (pa_cons pe_int pa_nil))) (fun _ _ => rfl)))
      (pss_cons (ps_if (pt_cmpR op_eq (uv 5 (hv := vi_law_odd_item_5)) pe_int (nomark _)) (pss_one (ps_ret pe_str)) pss_nil)
      (pss_cons (ps_if (pt_cmpR op_eq (uv 5 (hv := vi_law_odd_item_5)) pe_int (nomark _)) (pss_cons (ps_setLc (i := 7) (own := [("_law_sign", 10)]) (g := gName 10) rfl sc_law_odd_item.nd rfl rfl (sw_true rfl rfl rfl (by decide +kernel)) (ui_seq pe_str) (blkOk_by (own := [("_law_sign", 10)]) (N := N_law_odd_item) (sc := defScope s_law_odd_item) (by decide +kernel)) (fun _ _ _ _ _ => (pg_name (i := 10) sc_law_odd_item.nd rfl (by first | exact Or.inl rfl | exact Or.inr rfl))) (fun _ _ _ _ _ => (pts_one (pt_cmpR (show OpR _ (compareOp .NotIn) (uIn K true) from uo_notIn) (uv 10) (uv 1) rfl))) (fun _ _ _ _ _ => (uv 10)))
      (pss_one (ps_ret (pe_op uo_add (pe_slice us_sl (uv 1 (hv := vi_law_odd_item_1)) po_none (po_some pe_int)) (pe_ix ux_seq (uv 7 (hv := vi_law_odd_item_7)) (pe_callD (ok_law_take T) (hr.mono (by decide)) rfl T.m_law_take T.F_law_take.kp T.b_law_take .nil (fun σ => passAt (takes_of rfl rfl rfl rfl) σ) (pa_cons (uv 0 (hv := vi_law_odd_item_0)) (pa_cons (pe_callB uk_len rfl T.z_len boot_len (pa_cons (uv 7 (hv := vi_law_odd_item_7)) pa_nil)) pa_nil))) (fun _ _ => rfl)))))) pss_nil)
      (pss_cons (ps_if (pt_cmpR op_eq (uv 5 (hv := vi_law_odd_item_5)) pe_int (nomark _)) (pss_one (ps_ret (pe_tup (pa_cons (uv 6 (hv := vi_law_odd_item_6)) (pa_cons (pe_callD (ok_law_take T) (hr.mono (by decide)) rfl T.m_law_take T.F_law_take.kp T.b_law_take .nil (fun σ => passAt (takes_of rfl rfl rfl rfl) σ) (pa_cons (uv 0 (hv := vi_law_odd_item_0)) (pa_cons pe_int pa_nil))) pa_nil))))) pss_nil)
      (pss_cons (ps_if (pt_cmpR op_eq (uv 5 (hv := vi_law_odd_item_5)) pe_int (nomark _)) (pss_one (ps_ret (pe_tup (pa_cons (pe_callD (ok_law_take T) (hr.mono (by decide)) rfl T.m_law_take T.F_law_take.kp T.b_law_take .nil (fun σ => passAt (takes_of rfl rfl rfl rfl) σ) (pa_cons (uv 0 (hv := vi_law_odd_item_0)) (pa_cons (pe_op uo_add (pe_callB uk_len rfl T.z_len boot_len (pa_cons (uv 4 (hv := vi_law_odd_item_4)) pa_nil)) pe_int) pa_nil))) (pa_cons (uv 6 (hv := vi_law_odd_item_6)) pa_nil))))) pss_nil)
      (pss_cons (ps_set (i := 8) sc_law_odd_item.nd rfl lo_law_odd_item_8 (pe_lst (pa_cons (uv 2 (hv := vi_law_odd_item_2)) pa_nil)))
      (pss_cons (ps_for (passes_of rfl) rfl (ui_seq (uv 3 (hv := vi_law_odd_item_3))) (pg_name (i := 9) sc_law_odd_item.nd rfl lo_law_odd_item_9) (pss_one (ps_expr (pe_bm PySem.F.plainAttrs_list PySem.F.slot_list_extend PySem.F.type_list_extend mt_extend (uv 8 (hv := vi_law_odd_item_8)) (pa_cons (pe_lc (own := [("_law_one", 11)]) (g := gName 11) rfl sc_law_odd_item.nd (ui_seq (uv 9 (hv := vi_law_odd_item_9))) (blkOk_by (own := [("_law_one", 11)]) (N := N_law_odd_item) (sc := defScope s_law_odd_item) (by decide +kernel)) (fun _ _ _ _ _ => (pg_name (i := 11) sc_law_odd_item.nd rfl (by first | exact Or.inl rfl | exact Or.inr rfl))) (fun _ _ _ _ _ => (pts_one (utK K (pe_callB (show CallR _ (.builtin "isinstance") (uIs K) from uk_is) rfl T.z_isinstance boot_isinstance (pa_cons (uv 11) (pa_cons (pe_bltn (v := .ty "tuple") rfl T.z_tuple boot_tuple rfl) pa_nil)))))) (fun _ _ _ _ _ => (uv 11))) pa_nil)))))
      (pss_one (ps_ret (pe_ix ux_seq (uv 8 (hv := vi_law_odd_item_8)) (pe_callD (ok_law_take T) (hr.mono (by decide)) rfl T.m_law_take T.F_law_take.kp T.b_law_take .nil (fun σ => passAt (takes_of rfl rfl rfl rfl) σ) (pa_cons (uv 0 (hv := vi_law_odd_item_0)) (pa_cons (pe_callB uk_len rfl T.z_len boot_len (pa_cons (uv 8 (hv := vi_law_odd_item_8)) pa_nil)) pa_nil))) (fun _ _ => rfl)))))))))))), ?_⟩
  have lm := ln.most
  have hl2 : ls.length ≤ 1000000 := by omega
  have k0 := Kp.refl hb
  walk_at "go"
  refine ⟨p, 6, rfl, hb, by decide, by decide, fun form H1 f0 f1 b1 hb1 => ?_⟩
  have k1 := k0.but b1 hb1
  walk_at "go"
  refine g_new fun l1 hl1 => ?_
  have k2 := k1.new (o := .lst [.int (0 - 1), .int 2, .int 7, .int (0 - 2), .int 1, .int 0]) hl1
  have h2 := @upd_same H1 l1 (.lst [.int (0 - 1), .int 2, .int 7, .int (0 - 2), .int 1, .int 0])
  have n1 := hb1.ne hl1
  revert k2 h2
  generalize upd H1 l1 (.lst [.int (0 - 1), .int 2, .int 7, .int (0 - 2), .int 1, .int 0]) = H2
  intro k2 h2
  walk_at "go"
  refine ⟨p, 6, rfl, k2.2.1, by decide, by decide, fun u H3 u0 u1 b3 hb3 => ?_⟩
  have k3 := k2.but b3 hb3
  have em : ∃ m : Int, atI [V.int (0 - 1), .int 2, .int 7, .int (0 - 2), .int 1, .int 0] u = some (.int m) := by
    rcases (show u = 0 ∨ u = 1 ∨ u = 2 ∨ u = 3 ∨ u = 4 ∨ u = 5 by omega) with rfl | rfl | rfl | rfl | rfl | rfl <;> exact ⟨_, rfl⟩
  obtain ⟨m, em⟩ := em
  walk_at "go"
  refine g_ixL (b3 _ _ n1 h2) em ?_
  walk_at "go"
  refine i_eqI (fun c1 => ?_) fun c1 => ?_
  · walk_at "go"
    exact q _ (.inl "") _ (fun s hs => by cases hs; exact ⟨by decide, fun c hc => nomatch hc⟩) (Rep.s _) k3
  walk_at "go"
  refine i_eqI (fun c2 => ?_) fun c2 => ?_
  · walk_at "go"
    refine g_seqSs ?_
    walk_at "go"
    refine ⟨_, rfl, fun D hD => ?_⟩
    refine lc_it walk_str (fun i H4 => Ex H3 H4 ∧ H4 D = some (.lst (((otherS.cps.toList.take i).filter fun c => !decide (c ∈ ls.cps.toList)).map fun c => V.str (one c)))) ⟨Ex.new hD, upd_same⟩ (fun i H3 _ h => trivial) ?_ ?_
    · rintro i x H4 H4' hi ⟨e4, hns⟩ ⟨rfl, c, hc, rfl⟩
      have hc2 : otherS.cps.toList[i]? = some c := by simpa [otherS] using hc
      have hi2 : i < 12 := hi
      have lf : ((otherS.cps.toList.take i).filter fun c => !decide (c ∈ ls.cps.toList)).length ≤ i := Nat.le_trans (List.length_filter_le _ _) (by rw [List.length_take]; omega)
      walk_at "go"
      refine ⟨rfl, ?_⟩
      walk_at "go"
      refine g_inSn rfl ?_
      walk_at "go"
      have lz : (((otherS.cps.toList.take i).filter fun c => !decide (c ∈ ls.cps.toList)).map fun c => V.str (one c)).length < sizeLine := Nat.lt_of_le_of_lt (by rw [List.length_map]; omega : _ ≤ 1000) (by decide)
      refine i_n (fun g1 => ?_) fun g1 => ?_
      · have g2 : ¬ c ∈ ls.cps.toList := g1
        walk_at "go"
        refine ⟨_, hns, lz, e4.at_new hD, ?_⟩
        rw [upd_same, take_at hc2, filter_snoc, if_pos (by rw [decide_eq_false g2]; rfl), List.map_append]
        rfl
      · have g2 : c ∈ ls.cps.toList := g1
        refine ⟨e4, ?_⟩
        rw [take_at hc2, filter_snoc, if_neg (by rw [decide_eq_true g2]; decide), List.append_nil]
        exact hns
    rintro H4 ⟨e4, hns⟩
    have pos := other_pos ln hn
    have ml : ∀ c ∈ (otherS.cps.toList.filter fun c => !decide (c ∈ ls.cps.toList)), c < 0x110000 := fun c hc => otherS_low c (List.mem_filter.1 hc).1
    have lf : (otherS.cps.toList.filter fun c => !decide (c ∈ ls.cps.toList)).length ≤ 12 := Nat.le_trans (List.length_filter_le _ _) (by rw [← str_len, otherS_len]; exact Nat.le_refl _)
    replace hns : H4 D = some (.lst ((otherS.cps.toList.filter fun c => !decide (c ∈ ls.cps.toList)).map fun c => V.str (one c))) := by
      have z : otherS.cps.toList.take (Array.size otherS.cps) = otherS.cps.toList := by rw [show otherS.cps.size = otherS.cps.toList.length by simp, List.take_length]
      rw [← z]
      exact hns
    revert pos ml lf hns
    generalize (otherS.cps.toList.filter fun c => !decide (c ∈ ls.cps.toList)) = ns
    intro pos ml lf hns
    have k4 := k3.ex e4
    have nD : D ≠ p := k3.ne hD
    have lns : (ns.map fun c => V.str (one c)).length = ns.length := List.length_map _
    walk_at "go"
    refine g_slS hl2 ?_
    walk_at "go"
    refine ⟨p, _, rfl, k4.2.1, by omega, Nat.lt_of_lt_of_le (Bits.log (n := 30) (show (((ns.map fun c => V.str (one c)).length : Nat) : Int).natAbs < 2 ^ 30 by omega)) (by decide), fun j H5 j0 j1 b5 hb5 => ?_⟩
    have k5 := k4.but b5 hb5
    obtain ⟨y, ey, hy⟩ := atI_ex (l := ns.map fun c => V.str (one c)) j0 j1
    rw [List.getElem?_map] at hy
    cases ec : ns[j.toNat]? with
    | none => rw [ec] at hy; cases hy
    | some c =>
    rw [ec] at hy
    cases hy
    have l2 := cut_to_len ls 1
    have l3 : (cutS ls none (some (1 : Int))).length ≤ 1 := by rw [show (1 : Int) = ((1 : Nat) : Int) from rfl, l2]; omega
    have l4 : (one c).length = 1 := rfl
    walk_at "go"
    refine g_ixL (b5 _ _ nD hns) ey ?_
    refine g_addS (by omega) ?_
    refine q _ (.inl (cutS ls none (some 1) ++ one c)) _ (fun s hs => ?_) (Rep.s _) k5
    cases hs
    refine ⟨by rw [app_len]; omega, fun d hd => ?_⟩
    rw [app_list] at hd
    rcases List.mem_append.1 hd with hd | hd
    · exact ln.low d (cut_mem hd)
    · have e : d = c := by simpa [one] using hd
      rw [e]
      exact ml c (List.mem_of_getElem? ec)
  walk_at "go"
  refine i_eqI (fun c3 => ?_) fun c3 => ?_
  · walk_at "go"
    refine ⟨p, 2, rfl, hb3, by decide, by decide, fun j H4 j0 j1 b4 hb4 => ?_⟩
    have k4 := k3.but b4 hb4
    walk_at "go"
    refine g_new fun t ht => ?_
    exact q _ (.inr (m, j)) _ (itn_box _) (Rep.two upd_same (Rep.i _) (Rep.i _)) (k4.new ht)
  walk_at "go"
  refine i_eqI (fun c4 => ?_) fun c4 => ?_
  · have ho3 : ∃ ys, H3 o = some (.lst ys) ∧ ys.length ≤ 2 := ⟨ovs, k3.1 _ _ (fun z => by
      obtain ⟨a, b, c, hp⟩ := hb
      rw [z, hp] at ho
      injection ho with ho
      injection ho with ho
      subst ho
      simp at lo) ho, lo⟩
    obtain ⟨ys, hys, lys⟩ := ho3
    walk_at "go"
    refine ⟨p, _, rfl, hb3, by omega, Nat.lt_of_lt_of_le (Bits.log (n := 30) (show ((ys.length : Int) + 1).natAbs < 2 ^ 30 by omega)) (by decide), fun j H4 j0 j1 b4 hb4 => ?_⟩
    have k4 := k3.but b4 hb4
    walk_at "go"
    refine g_new fun t ht => ?_
    exact q _ (.inr (j, m)) _ (itn_box _) (Rep.two upd_same (Rep.i _) (Rep.i _)) (k4.new ht)
  obtain ⟨ra, xs, era, hra, rxs, lxs⟩ := rp_reps rx
  cases era
  have nrows := nx.rows
  walk_at "go"
  refine g_new fun S hS => ?_
  have k4 := k3.new (o := .lst [v]) hS
  have nS : S ≠ p := k3.ne hS
  have hS4 := @upd_same H3 S (.lst [v])
  have rv4 := rv.tk k4.2.2 (it_hard i)
  have fS : H S = none := k3.free hS
  revert k4 hS4 rv4
  generalize upd H3 S (.lst [v]) = H4
  intro k4 hS4 rv4
  walk_at "go"
  refine g_seqTs ?_
  walk_at "go"
  refine ⟨_, rfl, ⟨_, sqT (k4.2.2 _ _ hra)⟩, ?_⟩
  refine for_it walk_tup (fun j σ Hb => (∃ o9, σ = [some (.ref p), some (.str ls), some v, some (.ref r), some (.ref o), some (.int form), some (.int m), none, some (.ref S), o9, none, none]) ∧ Kp p H Hb ∧ ∃ (L : List Itm) (svs : List V), Hb S = some (.lst svs) ∧ Reps Hb (L.map itD) svs ∧ (∀ i ∈ L, ItN i) ∧ 1 ≤ L.length ∧ L.length ≤ 1 + 10 * j) ⟨⟨_, rfl⟩, k4, [i], [v], hS4, by simp only [List.map, Reps]; exact ⟨_, _, rfl, rv4, rfl⟩, (fun j hj => by rw [List.mem_singleton.1 hj]; exact ni), Nat.le_refl _, by simp⟩ (fun j σ Hb _ h => sqT (h.2.1.2.2 _ _ hra)) ?_ ?_
  · rintro j y σ Hb Hb' hj ⟨⟨o9, rfl⟩, kb, L, svs, hSb, rL, nL, L1, Lj⟩ ⟨rfl, hy⟩
    replace hy : xs[j]? = some y := hy
    have hj2 : j < 3 := by have z : j < xs.length := hj; omega
    obtain ⟨sm, esm, rsm⟩ := rxs.get hy
    rw [List.getElem?_map] at esm
    cases es : x[j]? with
    | none => rw [es] at esm; cases esm
    | some s0 =>
    rw [es] at esm
    cases esm
    have ms0 := List.mem_of_getElem? es
    have rlen := nx.row s0 ms0
    have nit := nx.item s0 ms0
    obtain ⟨ta, ts, rfl, hta, rts⟩ := (rsm.tk kb.2.2 (rw_hard s0)).tupI
    have lts : ts.length = s0.length := by rw [rts.len, List.length_map]
    walk_at "go"
    refine g_seqTs ?_
    walk_at "go"
    refine ⟨_, rfl, ⟨_, sqT hta⟩, fun D hD => ?_⟩
    refine lc_it walk_tup (fun k Hc => Ex Hb' Hc ∧ ∃ (N : List Itm) (nvs : List V), Hc D = some (.lst nvs) ∧ Reps Hc (N.map itD) nvs ∧ (∀ i ∈ N, ItN i) ∧ N.length ≤ k) ⟨Ex.new hD, [], [], upd_same, by simp only [List.map, Reps], (fun i hi => nomatch hi), Nat.le_refl _⟩ (fun k Hc _ h => sqT (h.1 _ _ hta)) ?_ ?_
    · rintro k z Hc Hc' hk ⟨ec, N, nvs, hDc, rN, nN, lN⟩ ⟨rfl, hz⟩
      replace hz : ts[k]? = some z := hz
      have hk2 : k < 8 := by have z : k < ts.length := hk; omega
      obtain ⟨d, ed, rd⟩ := rts.get hz
      rw [List.getElem?_map] at ed
      cases et : s0[k]? with
      | none => rw [et] at ed; cases ed
      | some t0 =>
      rw [et] at ed
      cases ed
      have lnv : nvs.length = N.length := by rw [rN.len, List.length_map]
      have nt : ItN t0 := nit t0 (List.mem_of_getElem? et)
      have rdc := rd.ex ec
      walk_at "go"
      refine ⟨rfl, ?_⟩
      walk_at "go"
      cases t0 with
      | inl s =>
        refine g_isD rdc (b := false) kit_st ?_
        walk_at "go"
        exact ⟨ec, N, nvs, hDc, rN, nN, by omega⟩
      | inr b =>
        refine g_isD rdc (b := true) kit_tt ?_
        walk_at "go"
        refine ⟨_, hDc, Nat.lt_of_le_of_lt (by omega : nvs.length ≤ 1000) (by decide), ec.at_new hD, N ++ [.inr b], nvs ++ [z], upd_same, reps_snoc (rN.tkm (tk_put hDc) it_hard) (rdc.tk (tk_put hDc) (it_hard _)), fun i hi => ?_, by rw [List.length_append, List.length_singleton]; omega⟩
        rcases List.mem_append.1 hi with hi | hi
        · exact nN i hi
        · rw [List.mem_singleton.1 hi]
          exact nt
    rintro Hc ⟨ec, N, nvs, hDc, rN, nN, lN⟩
    replace lN : N.length ≤ ts.length := lN
    have lnv : nvs.length = N.length := by rw [rN.len, List.length_map]
    have lsv : svs.length = L.length := by rw [rL.len, List.length_map]
    walk_at "go"
    refine g_ext (ec _ _ hSb) hDc (by omega) ?_
    have kc := kb.ex ec
    have tp := tk_put (ys := svs ++ nvs) (ec _ _ hSb)
    refine ⟨⟨_, rfl⟩, kc.put fS nS (ec _ _ hSb), L ++ N, svs ++ nvs, upd_same, ?_, fun i hi => ?_, by rw [List.length_append]; omega, by rw [List.length_append]; omega⟩
    · rw [List.map_append]
      exact ((rL.ex ec).tkm tp it_hard).append (rN.tkm tp it_hard)
    · rcases List.mem_append.1 hi with hi | hi
      · exact nL i hi
      · exact nN i hi
  · rintro σ Hb ⟨⟨o9, rfl⟩, kb, L, svs, hSb, rL, nL, L1, Lj⟩
    replace Lj : L.length ≤ 1 + 10 * xs.length := Lj
    have lsv : svs.length = L.length := by rw [rL.len, List.length_map]
    walk_at "go"
    refine ⟨p, _, rfl, kb.2.1, by omega, Nat.lt_of_lt_of_le (Bits.log (n := 30) (show ((svs.length : Nat) : Int).natAbs < 2 ^ 30 by omega)) (by decide), fun j H5 j0 j1 b5 hb5 => ?_⟩
    have k5 := kb.but b5 hb5
    obtain ⟨y, ey, hy⟩ := atI_ex (l := svs) j0 j1
    obtain ⟨d, ed, rd⟩ := rL.get hy
    rw [List.getElem?_map] at ed
    cases et : L[j.toNat]? with
    | none => rw [et] at ed; cases ed
    | some t0 =>
    rw [et] at ed
    cases ed
    walk_at "go"
    refine g_ixL (b5 _ _ nS hSb) ey ?_
    exact q _ t0 _ (nL t0 (List.mem_of_getElem? et)) (rd.tk (kb.2.1.tk b5) (it_hard t0)) k5
theorem vi_kind_of_0 : Vis (defScope s_kind_of) "wood" := by first | exact Or.inl (by decide +kernel) | exact Or.inr (Or.inl (by decide +kernel)) | exact Or.inr (Or.inr (by decide +kernel))
theorem vi_kind_of_1 : Vis (defScope s_kind_of) "maker" := by first | exact Or.inl (by decide +kernel) | exact Or.inr (Or.inl (by decide +kernel)) | exact Or.inr (Or.inr (by decide +kernel))
theorem ok_kind_of (T : Txt K mg) : FnOk P w K mg base (L2.CX P w) 3 T.a_kind_of T.d_kind_of ["wood", "maker"] spKindOf := by
  refine T.F_kind_of.okX sc_kind_of (fun vs H Q E h => ?_) (fun cdv A outer s H vs Q E hr h => ?_)
  · obtain ⟨_, _, _, rfl, _⟩ := h
    rfl
  obtain ⟨wd, v, e, rfl, rv, pre, he, q⟩ := h
  refine ⟨_, (pss_one (ps_ret (pe_ix ux_seq (pe_dget (hu_of hr) (pe_callD (ok_maker_table T) (hr.mono (by decide)) rfl T.m_maker_table T.F_maker_table.kp T.b_maker_table .nil (fun σ => passAt (takes_of rfl rfl rfl rfl) σ) (pa_cons (uv 0 (hv := vi_kind_of_0)) pa_nil)) (uv 1 (hv := vi_kind_of_1)) (fun _ _ => rfl)) pe_int (fun _ _ => rfl)))), ?_⟩
  walk_at "go"
  refine ⟨wd, _, rfl, rv, pre, fun d kvs H1 e1 hd hT => ?_⟩
  obtain ⟨p, t, a1, hp, ht⟩ := hT.2 e he
  walk_at "go"
  refine g_dgS hd a1 ?_
  walk_at "go"
  exact q _ e1
theorem vi_parts_of_0 : Vis (defScope s_parts_of) "wood" := by first | exact Or.inl (by decide +kernel) | exact Or.inr (Or.inl (by decide +kernel)) | exact Or.inr (Or.inr (by decide +kernel))
theorem vi_parts_of_1 : Vis (defScope s_parts_of) "maker" := by first | exact Or.inl (by decide +kernel) | exact Or.inr (Or.inl (by decide +kernel)) | exact Or.inr (Or.inr (by decide +kernel))
theorem ok_parts_of (T : Txt K mg) : FnOk P w K mg base (L2.CX P w) 3 T.a_parts_of T.d_parts_of ["wood", "maker"] spPartsOf := by
  refine T.F_parts_of.okX sc_parts_of (fun vs H Q E h => ?_) (fun cdv A outer s H vs Q E hr h => ?_)
  · obtain ⟨_, _, _, rfl, _⟩ := h
    rfl
  obtain ⟨wd, v, e, rfl, rv, pre, he, q⟩ := h
  refine ⟨_, (pss_one (ps_ret (pe_ix ux_seq (pe_dget (hu_of hr) (pe_callD (ok_maker_table T) (hr.mono (by decide)) rfl T.m_maker_table T.F_maker_table.kp T.b_maker_table .nil (fun σ => passAt (takes_of rfl rfl rfl rfl) σ) (pa_cons (uv 0 (hv := vi_parts_of_0)) pa_nil)) (uv 1 (hv := vi_parts_of_1)) (fun _ _ => rfl)) pe_int (fun _ _ => rfl)))), ?_⟩
  walk_at "go"
  refine ⟨wd, _, rfl, rv, pre, fun d kvs H1 e1 hd hT => ?_⟩
  obtain ⟨p, t, a1, hp, ht⟩ := hT.2 e he
  walk_at "go"
  refine g_dgS hd a1 ?_
  walk_at "go"
  exact q _ _ e1 ht
theorem vi_need_0 : Vis (defScope s_need) "good" := by first | exact Or.inl (by decide +kernel) | exact Or.inr (Or.inl (by decide +kernel)) | exact Or.inr (Or.inr (by decide +kernel))
theorem ok_need (T : Txt K mg) : FnOk P w K mg base (L2.CX P w) 3 T.a_need T.d_need ["good", "word", "maker"] (spNeedR T.a_NoPrinter) := by
  refine T.F_need.okX sc_need (fun vs H Q E h => ?_) (fun cdv A outer s H vs Q E hr h => ?_)
  · obtain ⟨_, _, _, rfl, _⟩ := h
    rfl
  obtain ⟨b, x, y, rfl, q1, q0⟩ := h
  refine ⟨_, (pss_one (ps_if (pt_not (ut (uv 0 (hv := vi_need_0)))) (pss_one (ps_raise rfl (takes_of rfl rfl rfl rfl) (pmk_oex T.o_NoPrinter T.i_NoPrinter T.t_NoPrinter (ok_init_NoPrinter T) (hr.mono (by decide)) T.bI_NoPrinter .nil passL rfl T.m_NoPrinter (pa_cons (uv 1) (pa_cons (uv 2) pa_nil))))) pss_nil)), ?_⟩
  walk_at "go"
  cases b with
  | true =>
    walk_at "go"
    exact q1 rfl
  | false =>
    walk_at "go"
    exact end_exc2 T.x_NoPrinter T.o_NoPrinter T.n_NoPrinter_word T.n_NoPrinter_maker fun d H' e h => q0 rfl d H' e h
theorem vi_law_wood_0 : Vis (defScope s_law_wood) "_law_box_here" := by first | exact Or.inl (by decide +kernel) | exact Or.inr (Or.inl (by decide +kernel)) | exact Or.inr (Or.inr (by decide +kernel))
theorem vi_law_wood_1 : Vis (defScope s_law_wood) "_law_most_kinds" := by first | exact Or.inl (by decide +kernel) | exact Or.inr (Or.inl (by decide +kernel)) | exact Or.inr (Or.inr (by decide +kernel))
theorem vi_law_wood_2 : Vis (defScope s_law_wood) "_law_most_makers" := by first | exact Or.inl (by decide +kernel) | exact Or.inr (Or.inl (by decide +kernel)) | exact Or.inr (Or.inr (by decide +kernel))
theorem vi_law_wood_3 : Vis (defScope s_law_wood) "_law_many" := by first | exact Or.inl (by decide +kernel) | exact Or.inr (Or.inl (by decide +kernel)) | exact Or.inr (Or.inr (by decide +kernel))
theorem vi_law_wood_4 : Vis (defScope s_law_wood) "_law_names_here" := by first | exact Or.inl (by decide +kernel) | exact Or.inr (Or.inl (by decide +kernel)) | exact Or.inr (Or.inr (by decide +kernel))
theorem vi_law_wood_5 : Vis (defScope s_law_wood) "_law_makers_here" := by first | exact Or.inl (by decide +kernel) | exact Or.inr (Or.inl (by decide +kernel)) | exact Or.inr (Or.inr (by decide +kernel))
theorem vi_law_wood_6 : Vis (defScope s_law_wood) "_law_m" := by first | exact Or.inl (by decide +kernel) | exact Or.inr (Or.inl (by decide +kernel)) | exact Or.inr (Or.inr (by decide +kernel))
theorem vi_law_wood_7 : Vis (defScope s_law_wood) "_law_kind" := by first | exact Or.inl (by decide +kernel) | exact Or.inr (Or.inl (by decide +kernel)) | exact Or.inr (Or.inr (by decide +kernel))
theorem vi_law_wood_8 : Vis (defScope s_law_wood) "_law_count" := by first | exact Or.inl (by decide +kernel) | exact Or.inr (Or.inl (by decide +kernel)) | exact Or.inr (Or.inr (by decide +kernel))
theorem vi_law_wood_9 : Vis (defScope s_law_wood) "_law_parts" := by first | exact Or.inl (by decide +kernel) | exact Or.inr (Or.inl (by decide +kernel)) | exact Or.inr (Or.inr (by decide +kernel))
theorem lo_law_wood_3 : Loc (defScope s_law_wood) "_law_many" := by first | exact Or.inl (by decide +kernel) | exact Or.inr (by decide +kernel)
theorem lo_law_wood_4 : Loc (defScope s_law_wood) "_law_names_here" := by first | exact Or.inl (by decide +kernel) | exact Or.inr (by decide +kernel)
theorem lo_law_wood_5 : Loc (defScope s_law_wood) "_law_makers_here" := by first | exact Or.inl (by decide +kernel) | exact Or.inr (by decide +kernel)
theorem lo_law_wood_6 : Loc (defScope s_law_wood) "_law_m" := by first | exact Or.inl (by decide +kernel) | exact Or.inr (by decide +kernel)
theorem lo_law_wood_7 : Loc (defScope s_law_wood) "_law_kind" := by first | exact Or.inl (by decide +kernel) | exact Or.inr (by decide +kernel)
theorem lo_law_wood_8 : Loc (defScope s_law_wood) "_law_count" := by first | exact Or.inl (by decide +kernel) | exact Or.inr (by decide +kernel)
theorem lo_law_wood_9 : Loc (defScope s_law_wood) "_law_parts" := by first | exact Or.inl (by decide +kernel) | exact Or.inr (by decide +kernel)
theorem ok_law_wood (T : Txt K mg) : FnOk P w K mg base (L2.CX P w) 3 T.a_law_wood T.d_law_wood ["_law_box_here", "_law_most_kinds", "_law_most_makers"] spWoodK1 := by
  refine T.F_law_wood.okX sc_law_wood (fun vs H Q E h => ?_) (fun cdv A outer s H vs Q E hr h => ?_)
  · obtain ⟨_, _, _, rfl, _⟩ := h
    rfl
  obtain ⟨p, mk, mm, rfl, hb, ⟨mk1, mk4⟩, ⟨mm1, mm12⟩, q⟩ := h
  refine ⟨_, (pss_cons (ps_set (i := 3) sc_law_wood.nd rfl lo_law_wood_3 (pe_op uo_add pe_int (pe_callD (ok_law_take T) (hr.mono (by decide)) rfl T.m_law_take T.F_law_take.kp T.b_law_take .nil (fun σ => passAt (takes_of rfl rfl rfl rfl) σ) (pa_cons (uv 0 (hv := vi_law_wood_0)) (pa_cons (uv 1 (hv := vi_law_wood_1)) pa_nil)))))
      (pss_cons (ps_set (i := 4) sc_law_wood.nd rfl lo_law_wood_4 (pe_callD (ok_law_names T) (hr.mono (by decide)) rfl T.m_law_names T.F_law_names.kp T.b_law_names .nil (fun σ => passAt (takes_of rfl rfl rfl rfl) σ) (pa_cons (uv 0 (hv := vi_law_wood_0)) (pa_cons (pe_op uo_add (uv 3 (hv := vi_law_wood_3)) (uv 2 (hv := vi_law_wood_2))) pa_nil))))
      (pss_cons (ps_set (i := 5) sc_law_wood.nd rfl lo_law_wood_5 (pe_lc (own := [("_law_k", 10)]) (g := gName 10) rfl sc_law_wood.nd (pi_range1 rfl T.z_range (pa_cons (uv 3 (hv := vi_law_wood_3)) pa_nil)) (blkOk_by (own := [("_law_k", 10)]) (N := N_law_wood) (sc := defScope s_law_wood) (by decide +kernel)) (fun _ _ _ _ _ => (pg_name (i := 10) sc_law_wood.nd rfl (by first | exact Or.inl rfl | exact Or.inr rfl))) (fun _ _ _ _ _ => pts_nil) (fun _ _ _ _ _ => (pe_lst pa_nil))))
      (pss_cons (ps_for (passes_of rfl) rfl (pi_range1 rfl T.z_range (pa_cons (pe_op uo_add pe_int (pe_callD (ok_law_take T) (hr.mono (by decide)) rfl T.m_law_take T.F_law_take.kp T.b_law_take .nil (fun σ => passAt (takes_of rfl rfl rfl rfl) σ) (pa_cons (uv 0 (hv := vi_law_wood_0)) (pa_cons (uv 2 (hv := vi_law_wood_2)) pa_nil)))) pa_nil)) (pg_name (i := 6) sc_law_wood.nd rfl lo_law_wood_6) (pss_cons (ps_set (i := 7) sc_law_wood.nd rfl lo_law_wood_7 (pe_callD (ok_law_take T) (hr.mono (by decide)) rfl T.m_law_take T.F_law_take.kp T.b_law_take .nil (fun σ => passAt (takes_of rfl rfl rfl rfl) σ) (pa_cons (uv 0 (hv := vi_law_wood_0)) (pa_cons (uv 3 (hv := vi_law_wood_3)) pa_nil))))
      (pss_cons (ps_set (i := 8) sc_law_wood.nd rfl lo_law_wood_8 (pe_callD (ok_law_take T) (hr.mono (by decide)) rfl T.m_law_take T.F_law_take.kp T.b_law_take .nil (fun σ => passAt (takes_of rfl rfl rfl rfl) σ) (pa_cons (uv 0 (hv := vi_law_wood_0)) (pa_cons pe_int pa_nil))))
      (C8.pss_cut (ps_if (PW.pt (pw_and (pt_cmpR op_eq (pe_callB uk_len rfl T.z_len boot_len (pa_cons (pe_ix ux_seq (uv 5 (hv := vi_law_wood_5)) (uv 7 (hv := vi_law_wood_7)) (fun _ _ => rfl)) pa_nil)) pe_int (nomark _)) (pw_and1 (pt_cmpR uo_gt (pe_callD (ok_law_take T) (hr.mono (by decide)) rfl T.m_law_take T.F_law_take.kp T.b_law_take .nil (fun σ => passAt (takes_of rfl rfl rfl rfl) σ) (pa_cons (uv 0 (hv := vi_law_wood_0)) (pa_cons pe_int pa_nil))) pe_int (nomark _))))) (pss_one (ps_set (i := 8) sc_law_wood.nd rfl lo_law_wood_8 pe_int)) pss_nil)
      (pss_cons (ps_set (i := 9) sc_law_wood.nd rfl lo_law_wood_9 (pe_callTy uk_tup rfl T.z_tuple boot_tuple (pa_cons (pe_lc (own := [("_law_p", 11)]) (g := gName 11) rfl sc_law_wood.nd (pi_range1 rfl T.z_range (pa_cons (uv 8 (hv := vi_law_wood_8)) pa_nil)) (blkOk_by (own := [("_law_p", 11)]) (N := N_law_wood) (sc := defScope s_law_wood) (by decide +kernel)) (fun _ _ _ _ _ => (pg_name (i := 11) sc_law_wood.nd rfl (by first | exact Or.inl rfl | exact Or.inr rfl))) (fun _ _ _ _ _ => pts_nil) (fun _ _ _ _ _ => (pe_ix (show IxR _ (uIx K) from ux_seq) (uv 4) (pe_callD (ok_law_take T) (hr.mono (by decide)) rfl T.m_law_take T.F_law_take.kp T.b_law_take .nil (fun _ => passAt0) (pa_cons (uv 0) (pa_cons (uv 3) pa_nil))) (fun _ _ => rfl)))) pa_nil)))
      (pss_one (ps_expr (pe_bm PySem.F.plainAttrs_list PySem.F.slot_list_append PySem.F.type_list_append mt_append (pe_ix ux_seq (uv 5 (hv := vi_law_wood_5)) (uv 7 (hv := vi_law_wood_7)) (fun _ _ => rfl)) (pa_cons (pe_tup (pa_cons (pe_ix ux_seq (uv 4 (hv := vi_law_wood_4)) (pe_op uo_add (uv 3 (hv := vi_law_wood_3)) (uv 6 (hv := vi_law_wood_6))) (fun _ _ => rfl)) (pa_cons (uv 9 (hv := vi_law_wood_9)) pa_nil))) pa_nil)))))))))
      (pss_one (ps_ret (pe_callTy uk_tup rfl T.z_tuple boot_tuple (pa_cons (pe_lc (own := [("_law_k", 10)]) (g := gName 10) rfl sc_law_wood.nd (pi_range1 rfl T.z_range (pa_cons (uv 3 (hv := vi_law_wood_3)) pa_nil)) (blkOk_by (own := [("_law_k", 10)]) (N := N_law_wood) (sc := defScope s_law_wood) (by decide +kernel)) (fun _ _ _ _ _ => (pg_name (i := 10) sc_law_wood.nd rfl (by first | exact Or.inl rfl | exact Or.inr rfl))) (fun _ _ _ _ _ => pts_nil) (fun _ _ _ _ _ => (pe_tup (pa_cons (pe_ix (show IxR _ (uIx K) from ux_seq) (uv 4) (uv 10) (fun _ _ => rfl)) (pa_cons (pe_callTy (show CallR _ (.type "tuple") (uTup K) from uk_tup) rfl T.z_tuple boot_tuple (pa_cons (pe_ix (show IxR _ (uIx K) from ux_seq) (uv 5) (uv 10) (fun _ _ => rfl)) pa_nil)) pa_nil))))) pa_nil)))))))), ?_⟩
  walk_at "go"
  refine ⟨p, _, rfl, hb, by omega, Nat.lt_of_lt_of_le (Bits.log (n := 10) (show ((mk : Nat) : Int).natAbs < 2 ^ 10 by omega)) (by decide), fun d H1 d0 d1 b1 hb1 => ?_⟩
  obtain ⟨m, rfl⟩ := Int.eq_ofNat_of_zero_le d0
  have em1 : (1 + (m : Int)) = ((m + 1 : Nat) : Int) := by omega
  walk_at "go"
  rw [em1]
  walk_at "go"
  refine ⟨p, m + 1 + mm, by show [V.ref p, V.int (((m + 1 : Nat) : Int) + (mm : Nat))] ++ [] = _; rfl, hb1, by omega, fun nl ss H2 hsl hsn hsd hnl0 b2 hb2 hn2 => ?_⟩
  have nnp : nl ≠ p := hb1.ne hnl0
  have bB := b1.trans b2
  walk_at "go"
  refine ⟨_, rfl, by omega, by omega, fun Dr hDr => ?_⟩
  rw [Int.toNat_natCast]
  refine lc_it walk_range (fun i H8 => Ex H2 H8 ∧ ∃ ras : List Addr, H8 Dr = some (.lst (ras.map V.ref)) ∧ ras.length = i ∧ ras.Nodup ∧ ∀ r ∈ ras, H2 r = none ∧ H8 r = some (.lst []) ∧ r ≠ Dr) ⟨Ex.new hDr, [], upd_same, rfl, List.nodup_nil, fun r z => (nomatch z)⟩ (fun _ _ _ _ => trivial) ?_ ?_
  · rintro i x H8 H8' hi ⟨e, ras, hD8, hrl, hrn, hrr⟩ ⟨rfl, rfl⟩
    walk_at "go"
    refine ⟨rfl, ?_⟩
    walk_at "go"
    refine g_new fun r hr8 => ?_
    have nrD : r ≠ Dr := fun z => by rw [z, hD8] at hr8; cases hr8
    refine ⟨_, Ex.new hr8 _ _ hD8, Nat.lt_of_le_of_lt (by rw [List.length_map]; omega : (ras.map V.ref).length ≤ 10) (by decide), (e.trans (Ex.new hr8)).at_new hDr, ras ++ [r], by rw [upd_same, List.map_append]; rfl, by rw [List.length_append, hrl]; rfl, ?_, fun x hx => ?_⟩
    · refine List.nodup_append.2 ⟨hrn, List.nodup_cons.2 ⟨fun z => (nomatch z), List.nodup_nil⟩, fun x hx y hy => ?_⟩
      rw [List.mem_singleton.1 hy]
      intro z
      have := (hrr x hx).2.1
      rw [z, hr8] at this
      cases this
    · rcases List.mem_append.1 hx with hx | hx
      · obtain ⟨a1, a2, a3⟩ := hrr x hx
        exact ⟨a1, by rw [upd_ne a3]; exact Ex.new hr8 _ _ a2, a3⟩
      · rw [List.mem_singleton.1 hx]
        exact ⟨e.free hr8, by rw [upd_ne nrD]; exact upd_same, nrD⟩
  rintro H8 ⟨e8, ras, hD8, hrl, hrn, hrr⟩
  have nDp : Dr ≠ p := hb2.ne hDr
  have nrp : ∀ r ∈ ras, r ≠ p := fun r hr' => hb2.ne (hrr r hr').1
  have nrn : ∀ r ∈ ras, nl ≠ r := fun r hr' z => by rw [z, (hrr r hr').1] at hn2; cases hn2
  have bC : But p H H8 := bB.trans (e8.but p)
  have hr0 : ∀ r ∈ ras, H r = none := fun r hr' => by
    cases c : H r with
    | none => rfl
    | some o =>
      have := bB _ _ (nrp r hr') c
      rw [(hrr r hr').1] at this
      cases this
  -- the names: first the kinds', then the makers'
  have lks : (ss.take (m + 1)).length = m + 1 := by rw [List.length_take]; omega
  have lns : (ss.drop (m + 1)).length = mm := by rw [List.length_drop]; omega
  have ekk : ∀ j, j < m + 1 → (ss.take (m + 1))[j]? = ss[j]? := fun j hj => by rw [List.getElem?_take, if_pos hj]
  have enn : ∀ j, (ss.drop (m + 1))[j]? = ss[m + 1 + j]? := fun j => List.getElem?_drop
  obtain ⟨ks, eks⟩ : ∃ ks, ks = ss.take (m + 1) := ⟨_, rfl⟩
  obtain ⟨ns, ens⟩ : ∃ ns, ns = ss.drop (m + 1) := ⟨_, rfl⟩
  rw [← eks] at lks ekk
  rw [← ens] at lns enn
  have hkn : ∀ k ∈ ks, isName k = true := fun k hk => hsn k (List.mem_of_mem_take (eks ▸ hk))
  have hnn : ∀ k ∈ ns, isName k = true := fun k hk => hsn k (List.mem_of_mem_drop (ens ▸ hk))
  have hkd : ks.Nodup := eks ▸ (List.take_sublist (m + 1) ss).nodup hsd
  have hnd : ns.Nodup := ens ▸ (List.drop_sublist (m + 1) ss).nodup hsd
  walk_at "go"
  refine ⟨p, _, rfl, hb2.ex e8, by omega, Nat.lt_of_lt_of_le (Bits.log (n := 10) (show ((mm : Nat) : Int).natAbs < 2 ^ 10 by omega)) (by decide), fun dm H9 dm0 dm1 b9 hb9 => ?_⟩
  obtain ⟨n, rfl⟩ := Int.eq_ofNat_of_zero_le dm0
  walk_at "go"
  refine ⟨_, rfl, by omega, by omega, ?_⟩
  refine for_it walk_range (fun i σ H9 => (∃ o6 o7 o8 o9, σ = [some (.ref p), some (.int (mk : Nat)), some (.int (mm : Nat)), some (.int ((m + 1 : Nat) : Int)), some (.ref nl), some (.ref Dr), o6, o7, o8, o9, none, none]) ∧ But p H H9 ∧ Box H9 p ∧ H9 nl = some (.lst (ss.map V.str)) ∧ H9 Dr = some (.lst (ras.map V.ref)) ∧ ∃ R, Rows H9 ras R ∧ R.length = m + 1 ∧ (∀ r ∈ R, ∀ k ∈ r, MkOk ks k) ∧ (rowNames R).Perm (ns.take i))
    ⟨⟨_, _, _, _, rfl⟩, bC.trans b9, hb9, b9 _ _ nnp (e8 _ _ hn2), b9 _ _ nDp hD8, List.replicate (m + 1) [], ⟨by rw [hrl, List.length_replicate], hrn, fun j a r ha hr' => ?_⟩, List.length_replicate, fun r hr' k hk' => ?_, ?_⟩ (fun _ _ _ _ _ => trivial) ?_ ?_
  · have z : r = [] := by
      have := List.mem_of_getElem? hr'
      exact (List.mem_replicate.1 this).2
    subst z
    exact ⟨[], b9 _ _ (nrp a (List.mem_of_getElem? ha)) (hrr a (List.mem_of_getElem? ha)).2.1, by simp only [List.map, Reps]⟩
  · rw [(List.mem_replicate.1 hr').2] at hk'
    cases hk'
  · have z : ∀ n, rowNames (List.replicate n []) = [] := fun n => by
      induction n with
      | zero => rfl
      | succ n ih => exact ih
    rw [z, List.take_zero]
  · rintro i x σ HA HA' hi ⟨⟨o6, o7, o8, o9, rfl⟩, bA, hbA, hnA, hDA, R, hR, hRl, hRm, hRp⟩ ⟨rfl, rfl⟩
    have hin : i < mm := by omega
    obtain ⟨nm, en⟩ : ∃ nm, ns[i]? = some nm := ⟨_, List.getElem?_eq_getElem (by omega)⟩
    have hnm := hnn nm (List.mem_of_getElem? en)
    walk_at "go"
    refine ⟨p, _, rfl, hbA, by omega, Nat.lt_of_lt_of_le (Bits.log (n := 10) (show (((m + 1 : Nat) : Int)).natAbs < 2 ^ 10 by omega)) (by decide), fun kd H11 kd0 kd1 b11 hb11 => ?_⟩
    obtain ⟨kq, rfl⟩ := Int.eq_ofNat_of_zero_le kd0
    walk_at "go"
    refine ⟨p, 3, rfl, hb11, by decide, by decide, fun cn H12 cn0 cn1 b12 hb12 => ?_⟩
    have b1x := b11.trans b12
    walk_at "go"
    refine ⟨fun σ' H' => ∃ cc : Int, 0 ≤ cc ∧ cc < 3 ∧ σ' = [some (.ref p), some (.int (mk : Nat)), some (.int (mm : Nat)), some (.int ((m + 1 : Nat) : Int)), some (.ref nl), some (.ref Dr), some (.int (0 + (i : Nat))), some (.int (kq : Nat)), some (.int cc), o9, none, none] ∧ But p HA' H' ∧ Box H' p, ?_, ?_⟩
    · have D12 := b1x _ _ nDp hDA
      have R12 : Rows H12 ras R := hR.keep (hbA.tk b1x) fun a ha us hu => b1x _ _ (nrp a ha) hu
      obtain ⟨ra, r, us, era, er, hus, hrs⟩ := R12.get (q := kq) (by omega)
      walk_at "go"
      refine g_ixL D12 (atI_nat (j := kq) (by rw [List.getElem?_map, era]; rfl)) ?_
      have here : ∃ c2 : Int, 0 ≤ c2 ∧ c2 < 3 ∧ [some (V.ref p), some (.int (mk : Nat)), some (.int (mm : Nat)), some (.int ((m + 1 : Nat) : Int)), some (.ref nl), some (.ref Dr), some (.int (0 + (i : Nat))), some (.int (kq : Nat)), some (.int cn), o9, none, none] = [some (.ref p), some (.int (mk : Nat)), some (.int (mm : Nat)), some (.int ((m + 1 : Nat) : Int)), some (.ref nl), some (.ref Dr), some (.int (0 + (i : Nat))), some (.int (kq : Nat)), some (.int c2), o9, none, none] := ⟨cn, cn0, cn1, rfl⟩
      walk_at "go"
      refine i_d (fun c1 => ?_) fun c1 => ?_
      · walk_at "go"
        refine ⟨p, 4, rfl, hb12, by decide, by decide, fun cx H13 cx0 cx1 b13 hb13 => ?_⟩
        walk_at "go"
        refine i_d (fun c2 => ?_) fun c2 => ?_
        · walk_at "go"
          exact ⟨0, by omega, by omega, rfl, b1x.trans b13, hb13⟩
        · walk_at "go"
          exact ⟨cn, cn0, cn1, rfl, b1x.trans b13, hb13⟩
      · walk_at "go"
        exact ⟨cn, cn0, cn1, rfl, b1x, hb12⟩
    rintro σ' H15 ⟨cc, cc0, cc1, rfl, b15, hb15⟩
    obtain ⟨cq, rfl⟩ := Int.eq_ofNat_of_zero_le cc0
    walk_at "go"
    refine ⟨_, rfl, by omega, by omega, fun D2 hD2 => ?_⟩
    rw [Int.toNat_natCast]
    refine lc_mapB walk_range p (fun _ _ v => ∃ s, v = V.str s ∧ s ∈ ks) (by omega) hD2 hb15 (fun _ _ _ _ _ r => r) (fun _ _ => trivial) ?_ ?_
    · rintro j x H13 H13' P N hj e13 hb13 ⟨rfl, rfl⟩ k
      walk_at "go"
      refine ⟨rfl, ?_⟩
      walk_at "go"
      refine ⟨p, _, rfl, hb13, by omega, Nat.lt_of_lt_of_le (Bits.log (n := 10) (show (((m + 1 : Nat) : Int)).natAbs < 2 ^ 10 by omega)) (by decide), fun j2 H14 j20 j21 b14 hb14 => ?_⟩
      walk_at "go"
      obtain ⟨jq, rfl⟩ := Int.eq_ofNat_of_zero_le j20
      obtain ⟨s, es⟩ : ∃ s, ks[jq]? = some s := ⟨_, List.getElem?_eq_getElem (by omega)⟩
      refine g_ixL (b14 _ _ nnp (e13 _ _ nnp (b15 _ _ nnp hnA))) (atI_nat (j := jq) (by rw [List.getElem?_map, ← ekk jq (by omega), es]; rfl)) ?_
      exact k _ _ b14 hb14 ⟨s, rfl, List.mem_of_getElem? es⟩
    intro H13 acc e13 hb13 hacc hla hr2
    obtain ⟨ps, rfl, hpl, hpp⟩ := acc_strs hla hr2
    have hpk : ∀ s ∈ ps, s ∈ ks := fun s hs => by
      obtain ⟨j, hj⟩ := List.mem_iff_getElem?.1 hs
      exact hpp j s hj
    walk_at "go"
    refine g_tupOf hacc fun t2 ht2 => ?_
    have b914 : But p HA' (upd H13 t2 (.tup (ps.map V.str))) := (b15.trans e13).trans ((Ex.new ht2).but p)
    have hb14 := hb13.at_upd (o := .tup (ps.map V.str)) (hb13.ne ht2)
    have h14 := @upd_same H13 t2 (.tup (ps.map V.str))
    revert b914 hb14 h14
    generalize upd H13 t2 (.tup (ps.map V.str)) = H14
    intro b914 hb14 h14
    have D15 := b914 _ _ nDp hDA
    have n15 := b914 _ _ nnp hnA
    have R15 : Rows H14 ras R := hR.keep (hbA.tk b914) fun a ha us hu => b914 _ _ (nrp a ha) hu
    obtain ⟨ra, r, us, era, er, hus, hrs⟩ := R15.get (q := kq) (by omega)
    have hram := List.mem_of_getElem? era
    walk_at "go"
    refine g_ixL D15 (atI_nat (j := kq) (by rw [List.getElem?_map, era]; rfl)) ?_
    refine g_tyL hus ?_
    walk_at "go"
    refine g_ixL n15 (i := ((m + 1 : Nat) : Int) + (0 + (i : Nat))) (v := .str nm) (by
      rw [show ((m + 1 : Nat) : Int) + (0 + (i : Nat)) = ((m + 1 + i : Nat) : Int) by omega]
      exact atI_nat (j := m + 1 + i) (by rw [List.getElem?_map, ← enn i, en]; rfl)) ?_
    walk_at "go"
    refine g_new fun t3 ht3 => ?_
    have e16 := Ex.new (o := .tup [.str nm, .ref t2]) ht3
    have h16 := @upd_same H14 t3 (.tup [.str nm, .ref t2])
    have hb16 := hb14.at_upd (o := .tup [.str nm, .ref t2]) (hb14.ne ht3)
    revert e16 h16 hb16
    generalize upd H14 t3 (.tup [.str nm, .ref t2]) = H16
    intro e16 h16 hb16
    have us16 := e16 _ _ hus
    have R16 : Rows H16 ras R := R15.keep e16.tk fun a ha us hu => e16 _ _ hu
    obtain ⟨us', hu', hrs16⟩ := R16.at_ kq ra r era er
    rw [us16] at hu'
    cases hu'
    have lus : us.length ≤ 12 := by
      have z1 := row_le er
      rw [hRp.length_eq, List.length_take] at z1
      have z2 := hrs16.len
      rw [List.length_map] at z2
      omega
    walk_at "go"
    refine g_app us16 (Nat.lt_of_le_of_lt lus (by decide)) ?_
    have rep : Rep H16 (mkD (nm, ps)) (.ref t3) := Rep.two h16 (Rep.s _) (by
      unfold partsD
      simp only [Rep]
      exact ⟨t2, _, rfl, e16 _ _ h14, strsReps ps⟩)
    have R17 := R16.put era er us16 hrs16 rep
    have mko : MkOk ks (nm, ps) := ⟨hnm, by show ps.length ≤ 2; omega, hpk⟩
    have b17 : But p H (upd H16 ra (.lst (us ++ [V.ref t3]))) := ((bA.trans b914).trans (e16.but p)).at_new (hr0 ra hram)
    walk_at "go"
    refine ⟨⟨_, _, _, _, rfl⟩, b17, hb16.at_upd (nrp ra hram), ?_, ?_, _, R17, by rw [List.length_set]; exact hRl, fun r' hr' k hk' => ?_, ?_⟩
    · rw [upd_ne (nrn ra hram)]
      exact e16 _ _ n15
    · rw [upd_ne (Ne.symm (hrr ra hram).2.2)]
      exact e16 _ _ D15
    · rcases List.mem_or_eq_of_mem_set hr' with hr' | rfl
      · exact hRm r' hr' k hk'
      · rcases List.mem_append.1 hk' with hk' | hk'
        · exact hRm r (List.mem_of_getElem? er) k hk'
        · rw [List.mem_singleton.1 hk']
          exact mko
    · refine (rowNames_put R kq r (nm, ps) er).trans ?_
      rw [List.take_add_one, en]
      exact List.Perm.append_right _ hRp
  · rintro σ H9 ⟨⟨o6, o7, o8, o9, rfl⟩, b9, hb9, hn9, hD9, R, hR, hRl, hRm, hRp⟩
    have tkn : ns.take (1 + (n : Int)).toNat <+: ns := List.take_prefix _ _
    have wok : WoodOk (ks.zip R) := wood_of ⟨by omega, by omega⟩ hkn hkd (by omega) hRm hRp (tkn.sublist.nodup hnd) (by rw [List.length_take]; omega)
    walk_at "go"
    refine ⟨_, rfl, by omega, by omega, fun D4 hD4 => ?_⟩
    rw [Int.toNat_natCast]
    refine lc_mapE walk_range (fun j H v => ∃ k r, ks[j]? = some k ∧ R[j]? = some r ∧ Rep H (kindD (k, r)) v) (by omega) hD4 (fun j H H' v t ⟨k, r, a1, a2, a3⟩ => ⟨k, r, a1, a2, a3.tk t (kind_hard _)⟩) (fun _ _ => trivial) ?_ ?_
    · rintro j x H10 H11 P N hj e10 ⟨rfl, rfl⟩ k
      obtain ⟨kn, ek⟩ : ∃ kn, ks[j]? = some kn := ⟨_, List.getElem?_eq_getElem (by omega)⟩
      obtain ⟨ra, er⟩ : ∃ ra, ras[j]? = some ra := ⟨_, List.getElem?_eq_getElem (by omega)⟩
      have jl : j < R.length := by omega
      obtain ⟨us, hus, hrs⟩ := hR.at_ j ra _ er (List.getElem?_eq_getElem jl)
      walk_at "go"
      refine ⟨rfl, ?_⟩
      walk_at "go"
      refine g_ixL (e10 _ _ hn9) (i := 0 + (j : Nat)) (v := .str kn) (by
        rw [Int.zero_add]
        exact atI_nat (j := j) (by rw [List.getElem?_map, ← ekk j (by omega), ek]; rfl)) ?_
      walk_at "go"
      refine g_ixL (e10 _ _ hD9) (i := 0 + (j : Nat)) (v := .ref ra) (by
        rw [Int.zero_add]
        exact atI_nat (j := j) (by rw [List.getElem?_map, er]; rfl)) ?_
      walk_at "go"
      refine g_tupOf (e10 _ _ hus) fun t2 ht2 => ?_
      walk_at "go"
      refine g_new fun t3 ht3 => ?_
      have e12 := (Ex.new (o := .tup us) ht2).trans (Ex.new (o := .tup [.str kn, .ref t2]) ht3)
      refine k _ _ e12 ⟨kn, R[j], ek, List.getElem?_eq_getElem jl, ?_⟩
      refine Rep.two upd_same (Rep.s _) ?_
      simp only [Rep]
      exact ⟨t2, us, rfl, Ex.new ht3 _ _ upd_same, hrs.tk ((e10.trans e12).tk) (mks_hard _)⟩
    · intro H10 acc e10 hacc hla hr2
      have rz := zip_reps ks R acc (by omega) (by rw [hla]; omega) hr2
      walk_at "go"
      refine g_tupOf hacc fun t5 ht5 => ?_
      have e11 := e10.trans (Ex.new (o := .tup acc) ht5)
      have pos : 1 ≤ (tabFrom 0 (ks.zip R)).length := by
        have e2 := congrArg List.length ((tab_names (ks.zip R) 0).trans (zip_names ks R (by omega)))
        rw [List.length_map, hRp.length_eq, List.length_take] at e2
        omega
      refine q _ _ _ wok pos ?_ (b9.trans (e11.but p)) (hb9.ex e11)
      unfold woodD
      simp only [Rep]
      exact ⟨t5, acc, rfl, upd_same, rz.ex (Ex.new ht5)⟩
theorem vi_law_rows_of_items_0 : Vis (defScope s_law_rows_of_items) "_law_box_here" := by first | exact Or.inl (by decide +kernel) | exact Or.inr (Or.inl (by decide +kernel)) | exact Or.inr (Or.inr (by decide +kernel))
theorem vi_law_rows_of_items_1 : Vis (defScope s_law_rows_of_items) "_law_letters_here" := by first | exact Or.inl (by decide +kernel) | exact Or.inr (Or.inl (by decide +kernel)) | exact Or.inr (Or.inr (by decide +kernel))
theorem vi_law_rows_of_items_2 : Vis (defScope s_law_rows_of_items) "_law_many" := by first | exact Or.inl (by decide +kernel) | exact Or.inr (Or.inl (by decide +kernel)) | exact Or.inr (Or.inr (by decide +kernel))
theorem vi_law_rows_of_items_3 : Vis (defScope s_law_rows_of_items) "_law_left" := by first | exact Or.inl (by decide +kernel) | exact Or.inr (Or.inl (by decide +kernel)) | exact Or.inr (Or.inr (by decide +kernel))
theorem vi_law_rows_of_items_4 : Vis (defScope s_law_rows_of_items) "_law_rows" := by first | exact Or.inl (by decide +kernel) | exact Or.inr (Or.inl (by decide +kernel)) | exact Or.inr (Or.inr (by decide +kernel))
theorem vi_law_rows_of_items_6 : Vis (defScope s_law_rows_of_items) "_law_row" := by first | exact Or.inl (by decide +kernel) | exact Or.inr (Or.inl (by decide +kernel)) | exact Or.inr (Or.inr (by decide +kernel))
theorem lo_law_rows_of_items_5 : Loc (defScope s_law_rows_of_items) "_law_turn" := by first | exact Or.inl (by decide +kernel) | exact Or.inr (by decide +kernel)
theorem lo_law_rows_of_items_6 : Loc (defScope s_law_rows_of_items) "_law_row" := by first | exact Or.inl (by decide +kernel) | exact Or.inr (by decide +kernel)
theorem ok_law_rows_of_items (T : Txt K mg) : FnOk P w K mg base (L2.CX P w) 3 T.a_law_rows_of_items T.d_law_rows_of_items ["_law_box_here", "_law_letters_here", "_law_many", "_law_left"] spRowsOf := by
  refine T.F_law_rows_of_items.okX sc_law_rows_of_items (fun vs H Q E h => ?_) (fun cdv A outer s H vs Q E hr h => ?_)
  · obtain ⟨_, _, _, _, _, _, _, _, rfl, _⟩ := h
    rfl
  obtain ⟨p, l, ls, many, cs, ps, bs, bv, rfl, hb, l1, l9, m2, hl, rb, lb, nb, hbs, q⟩ := h
  refine ⟨_, (pss_cons (ps_setLc (i := 4) (own := [("_law_j", 7)]) (g := gName 7) rfl sc_law_rows_of_items.nd rfl rfl (sw_true rfl rfl rfl (by decide +kernel)) (pi_range1 rfl T.z_range (pa_cons (uv 2 (hv := vi_law_rows_of_items_2)) pa_nil)) (blkOk_by (own := [("_law_j", 7)]) (N := N_law_rows_of_items) (sc := defScope s_law_rows_of_items) (by decide +kernel)) (fun _ _ _ _ _ => (pg_name (i := 7) sc_law_rows_of_items.nd rfl (by first | exact Or.inl rfl | exact Or.inr rfl))) (fun _ _ _ _ _ => pts_nil) (fun _ _ _ _ _ => (pe_lst pa_nil)))
      (pss_cons (ps_for (passes_of rfl) rfl (pi_range1 rfl T.z_range (pa_cons (pe_op uo_mul (pe_callD (ok_law_take T) (hr.mono (by decide)) rfl T.m_law_take T.F_law_take.kp T.b_law_take .nil (fun σ => passAt (takes_of rfl rfl rfl rfl) σ) (pa_cons (uv 0 (hv := vi_law_rows_of_items_0)) (pa_cons pe_int pa_nil))) (pe_callTy uk_int rfl T.z_int boot_int (pa_cons (pe_cmpR uo_gt (uv 2 (hv := vi_law_rows_of_items_2)) pe_int (nomark _)) pa_nil))) pa_nil)) (pg_name (i := 5) sc_law_rows_of_items.nd rfl lo_law_rows_of_items_5) (pss_cons (ps_set (i := 6) sc_law_rows_of_items.nd rfl lo_law_rows_of_items_6 (pe_ix ux_seq (uv 4 (hv := vi_law_rows_of_items_4)) (pe_callD (ok_law_take T) (hr.mono (by decide)) rfl T.m_law_take T.F_law_take.kp T.b_law_take .nil (fun σ => passAt (takes_of rfl rfl rfl rfl) σ) (pa_cons (uv 0 (hv := vi_law_rows_of_items_0)) (pa_cons (uv 2 (hv := vi_law_rows_of_items_2)) pa_nil))) (fun _ _ => rfl)))
      (pss_one (ps_if (PW.pt (pw_and (pt_cmpR uo_gt (pe_callB uk_len rfl T.z_len boot_len (pa_cons (uv 3 (hv := vi_law_rows_of_items_3)) pa_nil)) pe_int (nomark _)) (pw_and1 (pt_cmpR op_eq (pe_callD (ok_law_take T) (hr.mono (by decide)) rfl T.m_law_take T.F_law_take.kp T.b_law_take .nil (fun σ => passAt (takes_of rfl rfl rfl rfl) σ) (pa_cons (uv 0 (hv := vi_law_rows_of_items_0)) (pa_cons pe_int pa_nil))) pe_int (nomark _))))) (pss_one (ps_expr (pe_bm PySem.F.plainAttrs_list PySem.F.slot_list_append PySem.F.type_list_append mt_append (uv 6 (hv := vi_law_rows_of_items_6)) (pa_cons (pe_bm PySem.F.plainAttrs_list PySem.F.slot_list_pop PySem.F.type_list_pop mt_popAt (uv 3 (hv := vi_law_rows_of_items_3)) (pa_cons (pe_callD (ok_law_take T) (hr.mono (by decide)) rfl T.m_law_take T.F_law_take.kp T.b_law_take .nil (fun σ => passAt (takes_of rfl rfl rfl rfl) σ) (pa_cons (uv 0 (hv := vi_law_rows_of_items_0)) (pa_cons (pe_callB uk_len rfl T.z_len boot_len (pa_cons (uv 3 (hv := vi_law_rows_of_items_3)) pa_nil)) pa_nil))) pa_nil)) pa_nil)))) (pss_one (ps_expr (pe_bm PySem.F.plainAttrs_list PySem.F.slot_list_append PySem.F.type_list_append mt_append (uv 6 (hv := vi_law_rows_of_items_6)) (pa_cons (pe_callD (ok_law_item_text T) (hr.mono (by decide)) rfl T.m_law_item_text T.F_law_item_text.kp T.b_law_item_text .nil (fun σ => passAt (takes_of rfl rfl rfl rfl) σ) (pa_cons (uv 0 (hv := vi_law_rows_of_items_0)) (pa_cons (uv 1 (hv := vi_law_rows_of_items_1)) pa_nil))) pa_nil))))))))
      (pss_one (ps_ret (pe_callTy uk_tup rfl T.z_tuple boot_tuple (pa_cons (pe_lc (own := [("_law_row", 6)]) (g := gName 6) rfl sc_law_rows_of_items.nd (ui_seq (uv 4 (hv := vi_law_rows_of_items_4))) (blkOk_by (own := [("_law_row", 6)]) (N := N_law_rows_of_items) (sc := defScope s_law_rows_of_items) (by decide +kernel)) (fun _ _ _ _ _ => (pg_name (i := 6) sc_law_rows_of_items.nd rfl (by first | exact Or.inl rfl | exact Or.inr rfl))) (fun _ _ _ _ _ => pts_nil) (fun _ _ _ _ _ => (pe_callTy (show CallR _ (.type "tuple") (uTup K) from uk_tup) rfl T.z_tuple boot_tuple (pa_cons (uv 6) pa_nil)))) pa_nil)))))), ?_⟩
  have nlp : l ≠ p := hb.neL hl fun x hx n z => by
    obtain ⟨j, hj⟩ := List.mem_iff_getElem?.1 hx
    obtain ⟨d, hd, rd⟩ := rb.get hj
    rw [List.getElem?_map] at hd
    cases e : bs[j]? with
    | none => rw [e] at hd; cases hd
    | some b =>
      rw [e] at hd
      cases hd
      obtain ⟨a, ea, _⟩ := bd_rep rd
      rw [ea] at z
      cases z
  walk_at "go"
  refine ⟨_, rfl, by omega, by omega, fun Dr hDr => ?_⟩
  rw [Int.toNat_natCast]
  refine lc_it walk_range (fun i H8 => Ex H H8 ∧ ∃ ras : List Addr, H8 Dr = some (.lst (ras.map V.ref)) ∧ ras.length = i ∧ ras.Nodup ∧ ∀ r ∈ ras, H r = none ∧ H8 r = some (.lst []) ∧ r ≠ Dr) ⟨Ex.new hDr, [], upd_same, rfl, List.nodup_nil, fun r z => (nomatch z)⟩ (fun _ _ _ _ => trivial) ?_ ?_
  · rintro i x H8 H8' hi ⟨e, ras, hD8, hrl, hrn, hrr⟩ ⟨rfl, rfl⟩
    walk_at "go"
    refine ⟨rfl, ?_⟩
    walk_at "go"
    refine g_new fun r hr8 => ?_
    have nrD : r ≠ Dr := fun z => by rw [z, hD8] at hr8; cases hr8
    refine ⟨_, Ex.new hr8 _ _ hD8, Nat.lt_of_le_of_lt (by rw [List.length_map]; omega : (ras.map V.ref).length ≤ 10) (by decide), (e.trans (Ex.new hr8)).at_new hDr, ras ++ [r], by rw [upd_same, List.map_append]; rfl, by rw [List.length_append, hrl]; rfl, ?_, fun x hx => ?_⟩
    · refine List.nodup_append.2 ⟨hrn, List.nodup_cons.2 ⟨fun z => (nomatch z), List.nodup_nil⟩, fun x hx y hy => ?_⟩
      rw [List.mem_singleton.1 hy]
      intro z
      have := (hrr x hx).2.1
      rw [z, hr8] at this
      cases this
    · rcases List.mem_append.1 hx with hx | hx
      · obtain ⟨a1, a2, a3⟩ := hrr x hx
        exact ⟨a1, by rw [upd_ne a3]; exact Ex.new hr8 _ _ a2, a3⟩
      · rw [List.mem_singleton.1 hx]
        exact ⟨e.free hr8, by rw [upd_ne nrD]; exact upd_same, nrD⟩
  rintro H8 ⟨e8, ras, hD8, hrl, hrn, hrr⟩
  have nDp : Dr ≠ p := hb.ne hDr
  have nDl : Dr ≠ l := fun z => by rw [z, hl] at hDr; cases hDr
  have nrp : ∀ r ∈ ras, r ≠ p := fun r hr' => hb.ne (hrr r hr').1
  have nrl : ∀ r ∈ ras, r ≠ l := fun r hr' z => by have := (hrr r hr').1; rw [z, hl] at this; cases this
  have nrD : ∀ r ∈ ras, Dr ≠ r := fun r hr' z => (hrr r hr').2.2 z.symm
  have hb8 := hb.ex e8
  walk_at "go"
  refine ⟨p, 7, rfl, hb8, by decide, by decide, fun d H9 d0 d1 b9 hb9 => ?_⟩
  have esm : ∃ sm : Nat, d * b2z (decide ((0 : Int) < ((many : Nat) : Int))) = (sm : Int) ∧ sm ≤ 6 ∧ (many = 0 → sm = 0) := by
    by_cases k : (0 : Int) < ((many : Nat) : Int)
    · rw [decide_eq_true k]
      exact ⟨d.toNat, by show d * 1 = _; omega, by omega, fun z => by omega⟩
    · rw [decide_eq_false k]
      exact ⟨0, by show d * 0 = _; omega, by decide, fun _ => rfl⟩
  obtain ⟨sm, esm, hsm, hsm0⟩ := esm
  have cmA : CMm d (b2z (decide ((0 : Int) < ((many : Nat) : Int)))) := (show Bits 10 d from by unfold Bits; omega).cm (b2z_bits _)
  walk_at "go"
  rw [esm]
  walk_at "go"
  refine ⟨_, rfl, by omega, by omega, ?_⟩
  rw [Int.toNat_natCast]
  have b89 : But2 p l H H9 := fun b o n1 n2 e => b9 _ _ n1 (e8 _ _ e)
  refine for_it walk_range (fun i σ H2 => (∃ o5 o6, σ = [some (.ref p), some (.str ls), some (.int (many : Nat)), some (.ref l), some (.ref Dr), o5, o6, none]) ∧ But2 p l H H2 ∧ Box H2 p ∧ H2 Dr = some (.lst (ras.map V.ref)) ∧ ∃ R bs2 bv2, RowsI H2 ras R ∧ R.length = many ∧ H2 l = some (.lst bv2) ∧ Reps H2 (bs2.map bdD) bv2 ∧ R.flatten.length ≤ i ∧ (∀ it ∈ R.flatten, ItOk ls cs ps it) ∧ (R.flatten.filterMap boxOf ++ bs2).Perm bs)
    ⟨⟨_, _, rfl⟩, b89, hb9, b9 _ _ nDp hD8, List.replicate many [], bs, bv, ⟨by rw [hrl, List.length_replicate], hrn, fun j a r ha hr' => ?_⟩, List.length_replicate, b9 _ _ nlp (e8 _ _ hl), (rb.ex e8).tkm (hb8.tk b9) bd_hard, ?_, fun it hit => ?_, ?_⟩ (fun _ _ _ _ _ => trivial) ?_ ?_
  · have z : r = [] := (List.mem_replicate.1 (List.mem_of_getElem? hr')).2
    subst z
    exact ⟨[], b9 _ _ (nrp a (List.mem_of_getElem? ha)) (hrr a (List.mem_of_getElem? ha)).2.1, by simp only [List.map, Reps]⟩
  · rw [List.flatten_replicate_nil]
    exact Nat.le_refl _
  · rw [List.flatten_replicate_nil] at hit
    cases hit
  · rw [List.flatten_replicate_nil]
    exact List.Perm.refl _
  · rintro i x σ H2a H2 hi ⟨⟨o5, o6, rfl⟩, b2, hb2, hD2, R, bs2, bv2, hR, hRl, hl2, rb2, lR, iR, pR⟩ ⟨rfl, rfl⟩
    have hmany : many ≠ 0 := fun z => by have := hsm0 z; omega
    walk_at "go"
    refine ⟨p, _, rfl, hb2, by omega, Nat.lt_of_lt_of_le (Bits.log (n := 10) (show ((many : Nat) : Int).natAbs < 2 ^ 10 by omega)) (by decide), fun kd H3 kd0 kd1 b3 hb3 => ?_⟩
    obtain ⟨kq, rfl⟩ := Int.eq_ofNat_of_zero_le kd0
    have D3 := b3 _ _ nDp hD2
    have l3 := b3 _ _ nlp hl2
    have t3 := hb2.tk b3
    have rb3 := rb2.tkm t3 bd_hard
    have R3 : RowsI H3 ras R := hR.keep t3 fun a ha us hu => b3 _ _ (nrp a ha) hu
    obtain ⟨ra, r, us, era, er, hus, hrs⟩ := R3.get (q := kq) (by omega)
    have hram := List.mem_of_getElem? era
    have lbv : bv2.length = bs2.length := by rw [rb2.len, List.length_map]
    have lbs : bs2.length ≤ 4 := by
      have := pR.length_eq
      rw [List.length_append] at this
      omega
    have lus : us.length ≤ 12 := by
      have z1 := row_leF er
      have z2 := hrs.len
      rw [List.length_map] at z2
      omega
    -- what a new item leaves
    have fin : ∀ (H6 : Hp) (it : Itm) (v : V) (bs3 : List (Int × Int)) (bv3 : List V) (o5 o6 : Option V), But2 p l H2 H6 → Tk H2 H6 → Box H6 p → H6 l = some (.lst bv3) → Reps H6 (bs3.map bdD) bv3 → Rep H6 (itD it) v → ItOk ls cs ps it → (R.flatten.filterMap boxOf ++ (match boxOf it with | none => [] | some b => [b]) ++ bs3).Perm bs →
        H6 ra = some (.lst us) ∧ ((∃ o5' o6', [some (.ref p), some (.str ls), some (.int (many : Nat)), some (.ref l), some (.ref Dr), o5, o6, none] = [some (.ref p), some (.str ls), some (.int (many : Nat)), some (.ref l), some (.ref Dr), o5', o6', none]) ∧ But2 p l H (upd H6 ra (.lst (us ++ [v]))) ∧ Box (upd H6 ra (.lst (us ++ [v]))) p ∧ (upd H6 ra (.lst (us ++ [v]))) Dr = some (.lst (ras.map V.ref)) ∧ ∃ R bs2 bv2, RowsI (upd H6 ra (.lst (us ++ [v]))) ras R ∧ R.length = many ∧ (upd H6 ra (.lst (us ++ [v]))) l = some (.lst bv2) ∧ Reps (upd H6 ra (.lst (us ++ [v]))) (bs2.map bdD) bv2 ∧ R.flatten.length ≤ i + 1 ∧ (∀ it ∈ R.flatten, ItOk ls cs ps it) ∧ (R.flatten.filterMap boxOf ++ bs2).Perm bs) := by
      intro H6 it v bs3 bv3 o5 o6 b6 t6 hb6 hl6 rb6 rv6 iok pm
      have R6 : RowsI H6 ras R := hR.keep t6 fun a ha us hu => b6 _ _ (nrp a ha) (nrl a ha) hu
      obtain ⟨us', hu', hrs'⟩ := R6.at_ kq ra r era er
      obtain ⟨us2, hu2, hrs2⟩ := hR.at_ kq ra r era er
      have e1 := b6 _ _ (nrp ra hram) (nrl ra hram) hu2
      have e2 := b3 _ _ (nrp ra hram) hu2
      rw [hus] at e2
      cases e2
      rw [hu'] at e1
      cases e1
      have R7 := R6.put era er hu' hrs' rv6
      have fp := flat_put R kq r it er
      refine ⟨hu', ⟨_, _, rfl⟩, fun b o n1 n2 e => ?_, hb6.at_upd (nrp ra hram), ?_, R.set kq (r ++ [it]), bs3, bv3, R7, by rw [List.length_set]; exact hRl, ?_, rb6.tkm (tk_put hu') bd_hard, ?_, fun x hx => ?_, ?_⟩
      · have nb : b ≠ ra := fun z => by
          have := (hrr ra hram).1
          rw [z, this] at e
          cases e
        rw [upd_ne nb]
        exact b6 _ _ n1 n2 (b2 _ _ n1 n2 e)
      · rw [upd_ne (nrD ra hram)]
        exact b6 _ _ nDp nDl hD2
      · rw [upd_ne (Ne.symm (nrl ra hram))]
        exact hl6
      · rw [fp.length_eq, List.length_append]
        exact Nat.succ_le_succ lR
      · rcases List.mem_append.1 (fp.mem_iff.1 hx) with hx | hx
        · exact iR x hx
        · rw [List.mem_singleton.1 hx]
          exact iok
      · have z := fp.filterMap boxOf
        rw [box_app] at z
        exact (List.Perm.append_right bs3 z).trans pm
    walk_at "go"
    refine g_ixL D3 (atI_nat (j := kq) (by rw [List.getElem?_map, era]; rfl)) ?_
    walk_at "go"
    have text : ∀ (H4 : Hp), But p H3 H4 → Box H4 p → ∀ (s : Str) (H5 : Hp), 1 ≤ s.length → s.length ≤ 8 → (∀ c ∈ s.cps.toList, c ∈ ls.cps.toList) → But p H4 H5 → Box H5 p →
        H5 ra = some (.lst us) ∧ ((∃ o5' o6', [some (V.ref p), some (.str ls), some (.int (many : Nat)), some (.ref l), some (.ref Dr), some (.int (0 + (i : Nat))), some (.ref ra), none] = [some (.ref p), some (.str ls), some (.int (many : Nat)), some (.ref l), some (.ref Dr), o5', o6', none]) ∧ But2 p l H (upd H5 ra (.lst (us ++ [.str s]))) ∧ Box (upd H5 ra (.lst (us ++ [.str s]))) p ∧ (upd H5 ra (.lst (us ++ [.str s]))) Dr = some (.lst (ras.map V.ref)) ∧ ∃ R bs2 bv2, RowsI (upd H5 ra (.lst (us ++ [.str s]))) ras R ∧ R.length = many ∧ (upd H5 ra (.lst (us ++ [.str s]))) l = some (.lst bv2) ∧ Reps (upd H5 ra (.lst (us ++ [.str s]))) (bs2.map bdD) bv2 ∧ R.flatten.length ≤ i + 1 ∧ (∀ it ∈ R.flatten, ItOk ls cs ps it) ∧ (R.flatten.filterMap boxOf ++ bs2).Perm bs) := by
      intro H4 b4 hb4 s H5 s1 s8 hs b5 hb5
      have b25 := b3.trans (b4.trans b5)
      have t25 := hb2.tk b25
      exact fin H5 (.inl s) (.str s) bs2 bv2 _ _ (fun b o n1 n2 e => b25 _ _ n1 e) t25 hb5 (b25 _ _ nlp hl2) (rb2.tkm t25 bd_hard) (Rep.s s) ⟨⟨s1, s8⟩, hs⟩ (by
        show (R.flatten.filterMap boxOf ++ [] ++ bs2).Perm bs
        rw [List.append_nil]
        exact pR)
    refine i_d (fun c1 => ?_) fun c1 => ?_
    · walk_at "go"
      refine ⟨p, 2, rfl, hb3, by decide, by decide, fun d4 H4 d40 d41 b4 hb4 => ?_⟩
      have l4 := b4 _ _ nlp l3
      have us4 := b4 _ _ (nrp ra hram) hus
      walk_at "go"
      refine i_eqI (fun c2 => ?_) fun c2 => ?_
      · walk_at "go"
        refine ⟨p, _, rfl, hb4, by omega, Nat.lt_of_lt_of_le (Bits.log (n := 10) (show ((bv2.length : Nat) : Int).natAbs < 2 ^ 10 by omega)) (by decide), fun d5 H5 d50 d51 b5 hb5 => ?_⟩
        obtain ⟨k, rfl⟩ := Int.eq_ofNat_of_zero_le d50
        have b25 := b3.trans (b4.trans b5)
        have t25 := hb2.tk b25
        have l5 := b25 _ _ nlp hl2
        have rb5 := rb2.tkm t25 bd_hard
        obtain ⟨v, hv⟩ : ∃ v, bv2[k]? = some v := ⟨_, List.getElem?_eq_getElem (by omega)⟩
        obtain ⟨dd, hd, rd⟩ := rb5.get hv
        rw [List.getElem?_map] at hd
        cases eb : bs2[k]? with
        | none => rw [eb] at hd; cases hd
        | some b =>
        rw [eb] at hd
        cases hd
        walk_at "go"
        refine g_popAt l5 (by omega) hv ?_
        have t6 := tk_put (ys := bv2.eraseIdx k) l5
        have re : Reps (upd H5 l (.lst (bv2.eraseIdx k))) ((bs2.eraseIdx k).map bdD) (bv2.eraseIdx k) := by
          rw [← map_erase]
          exact (rb5.tkm t6 bd_hard).erase
        have pe : (R.flatten.filterMap boxOf ++ [b] ++ bs2.eraseIdx k).Perm bs := by
          rw [List.append_assoc]
          exact (List.Perm.append_left _ (perm_erase bs2 k b eb).symm).trans pR
        have bin : BxIn cs ps b := hbs b (pR.mem_iff.1 (List.mem_append_right _ (List.mem_of_getElem? eb)))
        obtain ⟨us6, f6⟩ := fin (upd H5 l (.lst (bv2.eraseIdx k))) (.inr b) v (bs2.eraseIdx k) (bv2.eraseIdx k) (some (.int (0 + (i : Nat)))) (some (.ref ra)) (fun b o n1 n2 e => by rw [upd_ne n2]; exact b25 _ _ n1 e) (t25.trans t6) (hb5.at_upd nlp) upd_same re (rd.tk t6 (bd_hard b)) bin pe
        walk_at "go"
        refine g_app us6 (Nat.lt_of_le_of_lt lus (by decide)) ?_
        exact f6
      · walk_at "go"
        refine ⟨p, ls, rfl, hb4, l1, l9, fun s H5 s1 s8 hs b5 hb5 => ?_⟩
        obtain ⟨us6, f6⟩ := text H4 b4 hb4 s H5 s1 s8 hs b5 hb5
        walk_at "go"
        refine g_app us6 (Nat.lt_of_le_of_lt lus (by decide)) ?_
        exact f6
    · walk_at "go"
      refine ⟨p, ls, rfl, hb3, l1, l9, fun s H5 s1 s8 hs b5 hb5 => ?_⟩
      obtain ⟨us6, f6⟩ := text H3 (But.refl _ _) hb3 s H5 s1 s8 hs b5 hb5
      walk_at "go"
      refine g_app us6 (Nat.lt_of_le_of_lt lus (by decide)) ?_
      exact f6
  · rintro σ H2 ⟨⟨o5, o6, rfl⟩, b2, hb2, hD2, R, bs2, bv2, hR, hRl, hl2, rb2, lR, iR, pR⟩
    walk_at "go"
    refine g_seqLs ?_
    walk_at "go"
    refine ⟨_, rfl, ⟨_, sqL hD2⟩, fun D4 hD4 => ?_⟩
    refine lc_mapE walk_list (fun j H v => ∃ r, R[j]? = some r ∧ Rep H (rwD r) v) (by rw [List.length_map, hrl]; omega) hD4 (fun j H H' v t ⟨r, a1, a2⟩ => ⟨r, a1, a2.tk t (rw_hard _)⟩) (fun H8 e => sqL (e _ _ hD2)) ?_ ?_
    · rintro j x H10 H11 P N hj e10 ⟨rfl, hx⟩ k
      rw [List.getElem?_map] at hx
      cases era : ras[j]? with
      | none => rw [era] at hx; cases hx
      | some ra =>
      rw [era] at hx
      cases hx
      have jl : j < R.length := by have := (List.getElem?_eq_some_iff.1 era).1; omega
      obtain ⟨us, hus, hrs⟩ := hR.at_ j ra _ era (List.getElem?_eq_getElem jl)
      walk_at "go"
      refine ⟨rfl, ?_⟩
      walk_at "go"
      refine g_tupOf (e10 _ _ hus) fun t2 ht2 => ?_
      exact k _ _ (Ex.new ht2) ⟨R[j], List.getElem?_eq_getElem jl, Rep.tupO upd_same ((hrs.ex e10).ex (Ex.new ht2))⟩
    · intro H10 acc e10 hacc hla hr2
      rw [List.length_map] at hla
      have rz := reps_at (f := rwD) (as := R) (by omega) hr2
      walk_at "go"
      refine g_tupOf hacc fun t5 ht5 => ?_
      have e11 := e10.trans (Ex.new (o := .tup acc) ht5)
      refine q _ R _ ⟨by rw [hRl], by omega, iR, ?_⟩ (Rep.tupO upd_same (rz.ex (Ex.new ht5))) (fun b o n1 n2 e => e11 _ _ (b2 _ _ n1 n2 e)) (hb2.ex e11)
      exact (List.nodup_append.1 (pR.nodup_iff.2 nb)).1
theorem vi_law_odd_rows_0 : Vis (defScope s_law_odd_rows) "_law_box_here" := by first | exact Or.inl (by decide +kernel) | exact Or.inr (Or.inl (by decide +kernel)) | exact Or.inr (Or.inr (by decide +kernel))
theorem vi_law_odd_rows_1 : Vis (defScope s_law_odd_rows) "_law_printer_here" := by first | exact Or.inl (by decide +kernel) | exact Or.inr (Or.inl (by decide +kernel)) | exact Or.inr (Or.inr (by decide +kernel))
theorem vi_law_odd_rows_2 : Vis (defScope s_law_odd_rows) "_law_m" := by first | exact Or.inl (by decide +kernel) | exact Or.inr (Or.inl (by decide +kernel)) | exact Or.inr (Or.inr (by decide +kernel))
theorem vi_law_odd_rows_3 : Vis (defScope s_law_odd_rows) "_law_own" := by first | exact Or.inl (by decide +kernel) | exact Or.inr (Or.inl (by decide +kernel)) | exact Or.inr (Or.inr (by decide +kernel))
theorem vi_law_odd_rows_4 : Vis (defScope s_law_odd_rows) "_law_rows" := by first | exact Or.inl (by decide +kernel) | exact Or.inr (Or.inl (by decide +kernel)) | exact Or.inr (Or.inr (by decide +kernel))
theorem vi_law_odd_rows_5 : Vis (defScope s_law_odd_rows) "_law_form" := by first | exact Or.inl (by decide +kernel) | exact Or.inr (Or.inl (by decide +kernel)) | exact Or.inr (Or.inr (by decide +kernel))
theorem vi_law_odd_rows_6 : Vis (defScope s_law_odd_rows) "_law_j" := by first | exact Or.inl (by decide +kernel) | exact Or.inr (Or.inl (by decide +kernel)) | exact Or.inr (Or.inr (by decide +kernel))
theorem vi_law_odd_rows_7 : Vis (defScope s_law_odd_rows) "_law_at" := by first | exact Or.inl (by decide +kernel) | exact Or.inr (Or.inl (by decide +kernel)) | exact Or.inr (Or.inr (by decide +kernel))
theorem vi_law_odd_rows_8 : Vis (defScope s_law_odd_rows) "_law_old" := by first | exact Or.inl (by decide +kernel) | exact Or.inr (Or.inl (by decide +kernel)) | exact Or.inr (Or.inr (by decide +kernel))
theorem lo_law_odd_rows_6 : Loc (defScope s_law_odd_rows) "_law_j" := by first | exact Or.inl (by decide +kernel) | exact Or.inr (by decide +kernel)
theorem lo_law_odd_rows_7 : Loc (defScope s_law_odd_rows) "_law_at" := by first | exact Or.inl (by decide +kernel) | exact Or.inr (by decide +kernel)
theorem lo_law_odd_rows_8 : Loc (defScope s_law_odd_rows) "_law_old" := by first | exact Or.inl (by decide +kernel) | exact Or.inr (by decide +kernel)
theorem ok_law_odd_rows (T : Txt K mg) : FnOk P w K mg base (L2.CX P w) 3 T.a_law_odd_rows T.d_law_odd_rows ["_law_box_here", "_law_printer_here", "_law_m", "_law_own"] spOddRows := by
  refine T.F_law_odd_rows.okX sc_law_odd_rows (fun vs H Q E h => ?_) (fun cdv A outer s H vs Q E hr h => ?_)
  · obtain ⟨_, _, _, _, _, _, _, rfl, _⟩ := h
    rfl
  obtain ⟨p, o, pr, pv, m, ovs, n, rfl, hb, rv, np, hn, m0, m1, ho, lo, q⟩ := h
  refine ⟨_, (pss_cons (ps_par (i := 4) (j := 5) rfl sc_law_odd_rows.nd rfl rfl (by decide) rfl rfl (pa_cons (pe_ix ux_seq (pe_ix ux_seq (uv 1 (hv := vi_law_odd_rows_1)) pe_int (fun _ _ => rfl)) (uv 2 (hv := vi_law_odd_rows_2)) (fun _ _ => rfl)) (pa_cons (pe_callD (ok_law_take T) (hr.mono (by decide)) rfl T.m_law_take T.F_law_take.kp T.b_law_take .nil (fun σ => passAt (takes_of rfl rfl rfl rfl) σ) (pa_cons (uv 0 (hv := vi_law_odd_rows_0)) (pa_cons pe_int pa_nil))) pa_nil)) rfl)
      (pss_cons (ps_set (i := 6) sc_law_odd_rows.nd rfl lo_law_odd_rows_6 (pe_callD (ok_law_take T) (hr.mono (by decide)) rfl T.m_law_take T.F_law_take.kp T.b_law_take .nil (fun σ => passAt (takes_of rfl rfl rfl rfl) σ) (pa_cons (uv 0 (hv := vi_law_odd_rows_0)) (pa_cons (pe_op uo_add (pe_callB uk_len rfl T.z_len boot_len (pa_cons (uv 4 (hv := vi_law_odd_rows_4)) pa_nil)) pe_int) pa_nil))))
      (pss_cons (ps_if (pt_cmpR op_eq (uv 5 (hv := vi_law_odd_rows_5)) pe_int (nomark _)) (pss_one (ps_ret (pe_op uo_add (pe_op uo_add (pe_slice us_sl (uv 4 (hv := vi_law_odd_rows_4)) po_none (po_some (uv 6 (hv := vi_law_odd_rows_6)))) (pe_tup (pa_cons (pe_tup pa_nil) pa_nil))) (pe_slice us_sl (uv 4 (hv := vi_law_odd_rows_4)) (po_some (uv 6 (hv := vi_law_odd_rows_6))) po_none)))) pss_nil)
      (pss_cons (ps_if (PW.pt (pw_or (pt_cmpR op_eq (uv 5 (hv := vi_law_odd_rows_5)) pe_int (nomark _)) (pw_or1 (pt_cmpR op_eq (uv 6 (hv := vi_law_odd_rows_6)) (pe_callB uk_len rfl T.z_len boot_len (pa_cons (uv 4 (hv := vi_law_odd_rows_4)) pa_nil)) (nomark _))))) (pss_one (ps_ret (pe_op uo_add (pe_slice us_sl (uv 4 (hv := vi_law_odd_rows_4)) po_none (po_some (uv 6 (hv := vi_law_odd_rows_6)))) (pe_slice us_sl (uv 4 (hv := vi_law_odd_rows_4)) (po_some (pe_op uo_add (uv 6 (hv := vi_law_odd_rows_6)) pe_int)) po_none)))) pss_nil)
      (pss_cons (ps_set (i := 7) sc_law_odd_rows.nd rfl lo_law_odd_rows_7 (pe_callD (ok_law_take T) (hr.mono (by decide)) rfl T.m_law_take T.F_law_take.kp T.b_law_take .nil (fun σ => passAt (takes_of rfl rfl rfl rfl) σ) (pa_cons (uv 0 (hv := vi_law_odd_rows_0)) (pa_cons (pe_op uo_add (pe_callB uk_len rfl T.z_len boot_len (pa_cons (pe_ix ux_seq (uv 4 (hv := vi_law_odd_rows_4)) (uv 6 (hv := vi_law_odd_rows_6)) (fun _ _ => rfl)) pa_nil)) pe_int) pa_nil))))
      (pss_cons (ps_set (i := 8) sc_law_odd_rows.nd rfl lo_law_odd_rows_8 (pe_ix ux_seq (pe_op uo_add (pe_ix ux_seq (uv 4 (hv := vi_law_odd_rows_4)) (uv 6 (hv := vi_law_odd_rows_6)) (fun _ _ => rfl)) (pe_tup (pa_cons (pe_slice us_sl (pe_ix ux_seq (uv 1 (hv := vi_law_odd_rows_1)) pe_int (fun _ _ => rfl)) po_none (po_some pe_int)) pa_nil))) (uv 7 (hv := vi_law_odd_rows_7)) (fun _ _ => rfl)))
      (pss_one (ps_ret (pe_callD (ok_law_exchanged T) (hr.mono (by decide)) rfl T.m_law_exchanged T.F_law_exchanged.kp T.b_law_exchanged .nil (fun σ => passAt (takes_of rfl rfl rfl rfl) σ) (pa_cons (uv 4 (hv := vi_law_odd_rows_4)) (pa_cons (uv 6 (hv := vi_law_odd_rows_6)) (pa_cons (pe_lst (pa_cons (pe_callD (ok_law_exchanged T) (hr.mono (by decide)) rfl T.m_law_exchanged T.F_law_exchanged.kp T.b_law_exchanged .nil (fun σ => passAt (takes_of rfl rfl rfl rfl) σ) (pa_cons (pe_ix ux_seq (uv 4 (hv := vi_law_odd_rows_4)) (uv 6 (hv := vi_law_odd_rows_6)) (fun _ _ => rfl)) (pa_cons (uv 7 (hv := vi_law_odd_rows_7)) (pa_cons (pe_lst (pa_cons (pe_callD (ok_law_odd_item T) (hr.mono (by decide)) rfl T.m_law_odd_item T.F_law_odd_item.kp T.b_law_odd_item .nil (fun σ => passAt (takes_of rfl rfl rfl rfl) σ) (pa_cons (uv 0 (hv := vi_law_odd_rows_0)) (pa_cons (pe_ix ux_seq (uv 1 (hv := vi_law_odd_rows_1)) pe_int (fun _ _ => rfl)) (pa_cons (uv 8 (hv := vi_law_odd_rows_8)) (pa_cons (uv 4 (hv := vi_law_odd_rows_4)) (pa_cons (uv 3 (hv := vi_law_odd_rows_3)) pa_nil)))))) pa_nil)) pa_nil)))) pa_nil)) pa_nil)))))))))))), ?_⟩
  obtain ⟨a, c, b, xs, rfl, ha, hc, hbb, rx⟩ := pr_at rv
  have lxs : xs.length = pr.2.2.length := by rw [rx.len, List.length_map]
  have no : o ≠ p := fun z => by
    obtain ⟨a, b, c, hp⟩ := hb
    rw [z, hp] at ho
    injection ho with ho
    injection ho with ho
    subst ho
    simp at lo
  have k0 := Kp.refl hb
  obtain ⟨rv1, em, hm⟩ := atI_ex (l := xs) m0 (by omega)
  obtain ⟨d, ed, rd⟩ := rx.get hm
  rw [List.getElem?_map] at ed
  cases er : pr.2.2[m.toNat]? with
  | none => rw [er] at ed; cases ed
  | some x =>
  rw [er] at ed
  cases ed
  obtain ⟨ra, rs, rfl, hra, rrs, lrs⟩ := rp_reps rd
  have nx := np.rule x (List.mem_of_getElem? er)
  have nr := nx.rows
  have lets := np.lets
  have lm := lets.most
  walk_at "go"
  refine g_ixT hbb em ?_
  walk_at "go"
  refine ⟨p, 5, rfl, hb, by decide, by decide, fun form H1 f0 f1 b1 hb1 => ?_⟩
  have k1 := k0.but b1 hb1
  have hra1 := k1.2.2 _ _ hra
  walk_at "go"
  refine ⟨p, _, rfl, hb1, by omega, Nat.lt_of_lt_of_le (Bits.log (n := 30) (show ((rs.length : Int) + 1).natAbs < 2 ^ 30 by omega)) (by decide), fun j H2 j0 j1 b2 hb2 => ?_⟩
  have k2 := k1.but b2 hb2
  have hra2 := k2.2.2 _ _ hra
  have rr2 : Reps H2 (x.map rwD) rs := rrs.tkm k2.2.2 rw_hard
  obtain ⟨j, rfl⟩ := Int.eq_ofNat_of_zero_le j0
  have ct : cutV rs none (some (j : Int)) = rs.take j := cutV_take (by omega) (by omega)
  have cd : cutV rs (some (j : Int)) none = rs.drop j := cutV_drop (by omega) (by omega)
  have itm : ∀ r ∈ x, ∀ i ∈ r, ItN i := fun r hr i hi => nx.item r hr i hi
  walk_at "go"
  refine i_eqI (fun c1 => ?_) fun c1 => ?_
  · walk_at "go"
    refine g_slT hra2 fun p1 H3 e3 h3 => ?_
    rw [ct] at h3
    walk_at "go"
    refine g_new fun p2 hp2 => ?_
    have e4 := Ex.new (o := .tup []) hp2
    have h4 := @upd_same H3 p2 (.tup [])
    walk_at "go"
    refine g_new fun p3 hp3 => ?_
    have e5 := Ex.new (o := .tup [.ref p2]) hp3
    have h5 := @upd_same (upd H3 p2 (.tup [])) p3 (.tup [.ref p2])
    have h45 := e5 _ _ h4
    have e35 := e3.trans (e4.trans e5)
    have h35 := e5 _ _ (e4 _ _ h3)
    revert h5 h45 e35 h35
    generalize upd (upd H3 p2 (.tup [])) p3 (.tup [.ref p2]) = H5
    intro h5 h45 e35 h35
    refine g_catT h35 h5 (by rw [List.length_take]; show _ + 1 ≤ _; omega) fun p6 H6 e6 h6 => ?_
    walk_at "go"
    refine g_slT (e6 _ _ (e35 _ _ hra2)) fun p7 H7 e7 h7 => ?_
    rw [cd] at h7
    refine g_catT (e7 _ _ h6) h7 (by rw [List.length_append, List.length_take, List.length_drop]; show _ + 1 + _ ≤ _; omega) fun p8 H8 e8 h8 => ?_
    have eA := e35.trans (e6.trans (e7.trans e8))
    have rA := rr2.ex eA
    refine q _ (x.take j ++ [[]] ++ x.drop j) _ ⟨?_, ?_, ?_⟩ (Rep.tupO h8 ?_) (k2.ex eA)
    · rw [List.length_append, List.length_append, List.length_take, List.length_drop]
      show _ + 1 + _ ≤ _
      omega
    · intro r hr
      rcases List.mem_append.1 hr with hr | hr
      · rcases List.mem_append.1 hr with hr | hr
        · have := nx.row r (List.mem_of_mem_take hr)
          omega
        · rw [List.mem_singleton.1 hr]
          exact Nat.zero_le _
      · have := nx.row r (List.mem_of_mem_drop hr)
        omega
    · intro r hr
      rcases List.mem_append.1 hr with hr | hr
      · rcases List.mem_append.1 hr with hr | hr
        · exact nx.item r (List.mem_of_mem_take hr)
        · rw [List.mem_singleton.1 hr]
          exact fun i hi => nomatch hi
      · exact nx.item r (List.mem_of_mem_drop hr)
    · rw [List.map_append, List.map_append]
      refine ((reps_parts rA j).1.append ?_).append (reps_parts rA j).2
      have z : Rep H8 (rwD []) (.ref p2) := Rep.tupO (ds := ([] : List Itm).map itD) ((e6.trans (e7.trans e8)) _ _ h45) (by simp only [List.map, Reps])
      simp only [List.map, Reps]
      exact ⟨_, _, rfl, z, rfl⟩
  have cut : (∀ (p' : Addr) (H' : Hp), Ex H2 H' → H' p' = some (.tup (rs.take j ++ rs.drop (j + 1))) → Q (.ref p') H') := fun p' H' e h => by
    have rA := rr2.ex e
    refine q _ (x.take j ++ x.drop (j + 1)) _ ⟨?_, ?_, ?_⟩ (Rep.tupO h ?_) (k2.ex e)
    · rw [List.length_append, List.length_take, List.length_drop]
      omega
    · intro r hr
      rcases List.mem_append.1 hr with hr | hr
      · have := nx.row r (List.mem_of_mem_take hr)
        omega
      · have := nx.row r (List.mem_of_mem_drop hr)
        omega
    · intro r hr
      rcases List.mem_append.1 hr with hr | hr
      · exact nx.item r (List.mem_of_mem_take hr)
      · exact nx.item r (List.mem_of_mem_drop hr)
    · rw [List.map_append]
      exact (reps_parts rA j).1.append (reps_parts rA (j + 1)).2
  have cd2 : cutV rs (some ((j : Int) + 1)) none = rs.drop (j + 1) := by
    by_cases z : j + 1 ≤ rs.length
    · exact cutV_drop (i := ((j + 1 : Nat) : Int)) (by omega) (by omega)
    · rw [List.drop_eq_nil_of_le (by omega)]
      have := (cutV_len (xs := rs) (i := (j : Int) + 1) (by omega)).2
      exact List.eq_nil_of_length_eq_zero (by omega)
  walk_at "go"
  refine i_eqI (fun c2 => ?_) fun c2 => ?_
  · walk_at "go"
    refine g_slT hra2 fun p1 H3 e3 h3 => ?_
    rw [ct] at h3
    walk_at "go"
    refine g_slT (e3 _ _ hra2) fun p7 H7 e7 h7 => ?_
    rw [cd2] at h7
    refine g_catT (e7 _ _ h3) h7 (by rw [List.length_take, List.length_drop]; omega) fun p8 H8 e8 h8 => ?_
    exact cut _ _ (e3.trans (e7.trans e8)) h8
  walk_at "go"
  refine i_eqI (fun c3 => ?_) fun c3 => ?_
  · walk_at "go"
    refine g_slT hra2 fun p1 H3 e3 h3 => ?_
    rw [ct] at h3
    walk_at "go"
    refine g_slT (e3 _ _ hra2) fun p7 H7 e7 h7 => ?_
    rw [cd2] at h7
    refine g_catT (e7 _ _ h3) h7 (by rw [List.length_take, List.length_drop]; omega) fun p8 H8 e8 h8 => ?_
    exact cut _ _ (e3.trans (e7.trans e8)) h8
  obtain ⟨jv, ej, hj⟩ := atI_ex (l := rs) (j := (j : Int)) (by omega) (by omega)
  rw [Int.toNat_natCast] at hj
  obtain ⟨d1, ed1, rd1⟩ := rrs.get hj
  rw [List.getElem?_map] at ed1
  cases es : x[j]? with
  | none => rw [es] at ed1; cases ed1
  | some s0 =>
  rw [es] at ed1
  cases ed1
  have ms0 := List.mem_of_getElem? es
  have lrow := nx.row s0 ms0
  obtain ⟨ta, ts, rfl, hta, rts⟩ := Rep.tupI rd1
  have lts : ts.length = s0.length := by rw [rts.len, List.length_map]
  have hta2 := k2.2.2 _ _ hta
  have rt2 : Reps H2 (s0.map itD) ts := rts.tkm k2.2.2 it_hard
  walk_at "go"
  refine g_ixT hra2 ej ?_
  walk_at "go"
  refine ⟨p, _, rfl, hb2, by omega, Nat.lt_of_lt_of_le (Bits.log (n := 30) (show ((ts.length : Int) + 1).natAbs < 2 ^ 30 by omega)) (by decide), fun at_ H3 a0 a1 b3 hb3 => ?_⟩
  have k3 := k2.but b3 hb3
  obtain ⟨at_, rfl⟩ := Int.eq_ofNat_of_zero_le a0
  have hra3 := k3.2.2 _ _ hra
  have hta3 := k3.2.2 _ _ hta
  have ha3 := k3.2.2 _ _ ha
  have rt3 : Reps H3 (s0.map itD) ts := rts.tkm k3.2.2 it_hard
  walk_at "go"
  refine g_ixT hra3 ej ?_
  walk_at "go"
  refine g_slS (by omega) ?_
  walk_at "go"
  refine g_new fun p4 hp4 => ?_
  have e4 := Ex.new (o := .tup [.str (cutS pr.1 none (some 1))]) hp4
  refine g_catT (e4 _ _ hta3) upd_same (by show _ + 1 ≤ _; omega) fun p5 H5 e5 h5 => ?_
  have e45 := e4.trans e5
  have k5 := k3.ex e45
  have rt5 : Reps H5 ((s0 ++ [Sum.inl (cutS pr.1 none (some 1))]).map itD) (ts ++ [.str (cutS pr.1 none (some 1))]) := reps_snoc (rt3.ex e45) (Rep.s _)
  obtain ⟨ov, eo, ho'⟩ := atI_ex (l := ts ++ [.str (cutS pr.1 none (some 1))]) (j := (at_ : Int)) (by omega) (by rw [List.length_append]; show _ < ((_ + 1 : Nat) : Int); omega)
  obtain ⟨d2, ed2, rd2⟩ := rt5.get ho'
  rw [List.getElem?_map] at ed2
  cases eo2 : (s0 ++ [Sum.inl (cutS pr.1 none (some 1))])[(at_ : Int).toNat]? with
  | none => rw [eo2] at ed2; cases ed2
  | some i0 =>
  rw [eo2] at ed2
  cases ed2
  have ni0 : ItN i0 := by
    rcases List.mem_append.1 (List.mem_of_getElem? eo2) with z | z
    · exact nx.item s0 ms0 i0 z
    · rw [List.mem_singleton.1 z]
      intro s e
      cases e
      have l2 := cut_to_len pr.1 1
      have l3 : (cutS pr.1 none (some (1 : Int))).length ≤ 1 := by rw [show (1 : Int) = ((1 : Nat) : Int) from rfl, l2]; omega
      exact ⟨by omega, fun c hc => lets.low c (cut_mem hc)⟩
  walk_at "go"
  refine g_ixT h5 eo ?_
  have hra5 := k5.2.2 _ _ hra
  have ha5 := k5.2.2 _ _ ha
  walk_at "go"
  refine g_ixT hra5 ej ?_
  walk_at "go"
  refine ⟨p, ra, o, pr.1, ov, i0, x, ovs, n, rfl, k5.2.1, lets, hn, rd2, ni0, (Rep.tupO hra5 (rrs.tkm k5.2.2 rw_hard)), nx, k5.1 _ _ no ho, lo, fun v' i' H6 ni' ri' k56 => ?_⟩
  have k6 := k5.trans k56
  walk_at "go"
  refine g_new fun p7 hp7 => ?_
  have k7 := k6.new (o := .lst [v']) hp7
  have e7 := Ex.new (o := .lst [v']) hp7
  refine ⟨ta, p7, ts, [v'], at_, rfl, k7.2.2 _ _ hta, upd_same, by omega, by omega, by omega, (by show 1 ≤ 1000; decide), fun p8 H8 e8 h8 => ?_⟩
  have k8 := k7.ex e8
  rw [Int.toNat_natCast] at h8
  have rrow : Rep H8 (rwD (s0.take at_ ++ [i'] ++ s0.drop (at_ + 1))) (.ref p8) := Rep.tupO h8 (reps_exch (rts.tkm k8.2.2 it_hard) (bs := [i']) (ys := [v']) (by
    have z := ri'.ex (e7.trans e8)
    simp only [List.map, Reps]
    exact ⟨_, _, rfl, z, rfl⟩) at_)
  walk_at "go"
  refine g_new fun p9 hp9 => ?_
  have k9 := k8.new (o := .lst [.ref p8]) hp9
  have e9 := Ex.new (o := .lst [.ref p8]) hp9
  refine ⟨ra, p9, rs, [.ref p8], j, rfl, k9.2.2 _ _ hra, upd_same, by omega, by omega, by omega, (by show 1 ≤ 1000; decide), fun pA HA eA hA => ?_⟩
  have kA := k9.ex eA
  rw [Int.toNat_natCast] at hA
  refine q _ (x.take j ++ [s0.take at_ ++ [i'] ++ s0.drop (at_ + 1)] ++ x.drop (j + 1)) _ ⟨?_, ?_, ?_⟩ (Rep.tupO hA (reps_exch (rrs.tkm kA.2.2 rw_hard) (by
    have z := rrow.ex (e9.trans eA)
    simp only [List.map, Reps]
    exact ⟨_, _, rfl, z, rfl⟩) j)) kA
  · rw [List.length_append, List.length_append, List.length_take, List.length_drop]
    show _ + 1 + _ ≤ _
    omega
  · intro r hr
    rcases List.mem_append.1 hr with hr | hr
    · rcases List.mem_append.1 hr with hr | hr
      · have := nx.row r (List.mem_of_mem_take hr)
        omega
      · rw [List.mem_singleton.1 hr, List.length_append, List.length_append, List.length_take, List.length_drop]
        show _ + 1 + _ ≤ _
        omega
    · have := nx.row r (List.mem_of_mem_drop hr)
      omega
  · intro r hr
    rcases List.mem_append.1 hr with hr | hr
    · rcases List.mem_append.1 hr with hr | hr
      · exact nx.item r (List.mem_of_mem_take hr)
      · rw [List.mem_singleton.1 hr]
        intro i hi
        rcases List.mem_append.1 hi with hi | hi
        · rcases List.mem_append.1 hi with hi | hi
          · exact nx.item s0 ms0 i (List.mem_of_mem_take hi)
          · rw [List.mem_singleton.1 hi]
            exact ni'
        · exact nx.item s0 ms0 i (List.mem_of_mem_drop hi)
    · exact nx.item r (List.mem_of_mem_drop hr)
theorem vi_look_printer_0 : Vis (defScope s_look_printer) "wood" := by first | exact Or.inl (by decide +kernel) | exact Or.inr (Or.inl (by decide +kernel)) | exact Or.inr (Or.inr (by decide +kernel))
theorem vi_look_printer_1 : Vis (defScope s_look_printer) "printer" := by first | exact Or.inl (by decide +kernel) | exact Or.inr (Or.inl (by decide +kernel)) | exact Or.inr (Or.inr (by decide +kernel))
theorem vi_look_printer_2 : Vis (defScope s_look_printer) "letters" := by first | exact Or.inl (by decide +kernel) | exact Or.inr (Or.inl (by decide +kernel)) | exact Or.inr (Or.inr (by decide +kernel))
theorem vi_look_printer_3 : Vis (defScope s_look_printer) "counts" := by first | exact Or.inl (by decide +kernel) | exact Or.inr (Or.inl (by decide +kernel)) | exact Or.inr (Or.inr (by decide +kernel))
theorem vi_look_printer_4 : Vis (defScope s_look_printer) "rules" := by first | exact Or.inl (by decide +kernel) | exact Or.inr (Or.inl (by decide +kernel)) | exact Or.inr (Or.inr (by decide +kernel))
theorem vi_look_printer_5 : Vis (defScope s_look_printer) "makers" := by first | exact Or.inl (by decide +kernel) | exact Or.inr (Or.inl (by decide +kernel)) | exact Or.inr (Or.inr (by decide +kernel))
theorem vi_look_printer_6 : Vis (defScope s_look_printer) "maker" := by first | exact Or.inl (by decide +kernel) | exact Or.inr (Or.inl (by decide +kernel)) | exact Or.inr (Or.inr (by decide +kernel))
theorem vi_look_printer_7 : Vis (defScope s_look_printer) "rows" := by first | exact Or.inl (by decide +kernel) | exact Or.inr (Or.inl (by decide +kernel)) | exact Or.inr (Or.inr (by decide +kernel))
theorem vi_look_printer_8 : Vis (defScope s_look_printer) "own" := by first | exact Or.inl (by decide +kernel) | exact Or.inr (Or.inl (by decide +kernel)) | exact Or.inr (Or.inr (by decide +kernel))
theorem vi_look_printer_9 : Vis (defScope s_look_printer) "seen" := by first | exact Or.inl (by decide +kernel) | exact Or.inr (Or.inl (by decide +kernel)) | exact Or.inr (Or.inr (by decide +kernel))
theorem vi_look_printer_10 : Vis (defScope s_look_printer) "row" := by first | exact Or.inl (by decide +kernel) | exact Or.inr (Or.inl (by decide +kernel)) | exact Or.inr (Or.inr (by decide +kernel))
theorem vi_look_printer_11 : Vis (defScope s_look_printer) "item" := by first | exact Or.inl (by decide +kernel) | exact Or.inr (Or.inl (by decide +kernel)) | exact Or.inr (Or.inr (by decide +kernel))
theorem vi_look_printer_12 : Vis (defScope s_look_printer) "wrong" := by first | exact Or.inl (by decide +kernel) | exact Or.inr (Or.inl (by decide +kernel)) | exact Or.inr (Or.inr (by decide +kernel))
theorem lo_look_printer_2 : Loc (defScope s_look_printer) "letters" := by first | exact Or.inl (by decide +kernel) | exact Or.inr (by decide +kernel)
theorem lo_look_printer_3 : Loc (defScope s_look_printer) "counts" := by first | exact Or.inl (by decide +kernel) | exact Or.inr (by decide +kernel)
theorem lo_look_printer_4 : Loc (defScope s_look_printer) "rules" := by first | exact Or.inl (by decide +kernel) | exact Or.inr (by decide +kernel)
theorem lo_look_printer_5 : Loc (defScope s_look_printer) "makers" := by first | exact Or.inl (by decide +kernel) | exact Or.inr (by decide +kernel)
theorem lo_look_printer_6 : Loc (defScope s_look_printer) "maker" := by first | exact Or.inl (by decide +kernel) | exact Or.inr (by decide +kernel)
theorem lo_look_printer_7 : Loc (defScope s_look_printer) "rows" := by first | exact Or.inl (by decide +kernel) | exact Or.inr (by decide +kernel)
theorem lo_look_printer_9 : Loc (defScope s_look_printer) "seen" := by first | exact Or.inl (by decide +kernel) | exact Or.inr (by decide +kernel)
theorem lo_look_printer_10 : Loc (defScope s_look_printer) "row" := by first | exact Or.inl (by decide +kernel) | exact Or.inr (by decide +kernel)
theorem lo_look_printer_11 : Loc (defScope s_look_printer) "item" := by first | exact Or.inl (by decide +kernel) | exact Or.inr (by decide +kernel)
theorem lo_look_printer_12 : Loc (defScope s_look_printer) "wrong" := by first | exact Or.inl (by decide +kernel) | exact Or.inr (by decide +kernel)
theorem ok_look_printer (T : Txt K mg) : FnOk P w K mg base (L2.CX P w) 4 T.a_look_printer T.d_look_printer ["wood", "printer"] (spLookPr T.a_NoPrinter) := by
  refine T.F_look_printer.okX sc_look_printer (fun vs H Q E h => ?_) (fun cdv A outer s H vs Q E hr h => ?_)
  · obtain ⟨_, _, _, _, rfl, _⟩ := h
    rfl
  obtain ⟨wd, r, wv, v, rfl, rw1, ok, rv, rb, q1, q0⟩ := h
  refine ⟨_, (pss_cons (ps_asg (uv 1 (hv := vi_look_printer_1)) (pg_tup rfl (pgs_cons (pg_name (i := 2) sc_look_printer.nd rfl lo_look_printer_2) (pgs_cons (pg_name (i := 3) sc_look_printer.nd rfl lo_look_printer_3) (pgs_cons (pg_name (i := 4) sc_look_printer.nd rfl lo_look_printer_4) pgs_nil)))))
      (pss_cons (ps_set (i := 5) sc_look_printer.nd rfl lo_look_printer_5 (pe_callD (ok_makers_of T) (hr.mono (by decide)) rfl T.m_makers_of T.F_makers_of.kp T.b_makers_of .nil (fun σ => passAt (takes_of rfl rfl rfl rfl) σ) (pa_cons (uv 0 (hv := vi_look_printer_0)) pa_nil)))
      (pss_cons (ps_expr (pe_callD (ok_need T) (hr.mono (by decide)) rfl T.m_need T.F_need.kp T.b_need .nil (fun σ => passAt (takes_of rfl rfl rfl rfl) σ) (pa_cons (pe_callD (ok_is_letters T) (hr.mono (by decide)) rfl T.m_is_letters T.F_is_letters.kp T.b_is_letters .nil (fun σ => passAt (takes_of rfl rfl rfl rfl) σ) (pa_cons (uv 2 (hv := vi_look_printer_2)) pa_nil)) (pa_cons pe_str (pa_cons pe_str pa_nil)))))
      (pss_cons (ps_expr (pe_callD (ok_need T) (hr.mono (by decide)) rfl T.m_need T.F_need.kp T.b_need .nil (fun σ => passAt (takes_of rfl rfl rfl rfl) σ) (pa_cons (pe_and (pe_cmpR op_eq (pe_callB uk_len rfl T.z_len boot_len (pa_cons (uv 3 (hv := vi_look_printer_3)) pa_nil)) (pe_callB uk_len rfl T.z_len boot_len (pa_cons (uv 0 (hv := vi_look_printer_0)) pa_nil)) (nomark _)) (pe_one (pe_callB (cr_all rfl) rfl T.z_all boot_all (pa_cons (pe_lc (own := [("count", 13)]) (g := gName 13) rfl sc_look_printer.nd (ui_seq (uv 3 (hv := vi_look_printer_3))) (blkOk_by (own := [("count", 13)]) (N := N_look_printer) (sc := defScope s_look_printer) (by decide +kernel)) (fun _ _ _ _ _ => (pg_name (i := 13) sc_look_printer.nd rfl (by first | exact Or.inl rfl | exact Or.inr rfl))) (fun _ _ _ _ _ => pts_nil) (fun _ _ _ _ _ => (pe_chain uo_le uo_le pe_int (uv 13) (pe_con rfl T.m_MOST_BOXES)))) pa_nil)))) (pa_cons pe_str (pa_cons pe_str pa_nil)))))
      (pss_cons (ps_expr (pe_callD (ok_need T) (hr.mono (by decide)) rfl T.m_need T.F_need.kp T.b_need .nil (fun σ => passAt (takes_of rfl rfl rfl rfl) σ) (pa_cons (pe_cmpR op_eq (pe_callB uk_len rfl T.z_len boot_len (pa_cons (uv 4 (hv := vi_look_printer_4)) pa_nil)) (pe_callB uk_len rfl T.z_len boot_len (pa_cons (uv 5 (hv := vi_look_printer_5)) pa_nil)) (nomark _)) (pa_cons pe_str (pa_cons pe_str pa_nil)))))
      (pss_cons (ps_for (passes_of rfl) rfl (pi_zipS rfl T.z_zip (pa_cons (uv 5 (hv := vi_look_printer_5)) (pa_cons (uv 4 (hv := vi_look_printer_4)) pa_nil)) pe_bl) (pg_tup rfl (pgs_cons (pg_name (i := 6) sc_look_printer.nd rfl lo_look_printer_6) (pgs_cons (pg_name (i := 7) sc_look_printer.nd rfl lo_look_printer_7) pgs_nil))) (pss_cons (ps_expr (pe_callD (ok_need T) (hr.mono (by decide)) rfl T.m_need T.F_need.kp T.b_need .nil (fun σ => passAt (takes_of rfl rfl rfl rfl) σ) (pa_cons (pe_cmpR op_eq (pe_callB uk_len rfl T.z_len boot_len (pa_cons (uv 7 (hv := vi_look_printer_7)) pa_nil)) (pe_ix ux_seq (uv 3 (hv := vi_look_printer_3)) (pe_callD (ok_kind_of T) (hr.mono (by decide)) rfl T.m_kind_of T.F_kind_of.kp T.b_kind_of .nil (fun σ => passAt (takes_of rfl rfl rfl rfl) σ) (pa_cons (uv 0 (hv := vi_look_printer_0)) (pa_cons (uv 6 (hv := vi_look_printer_6)) pa_nil))) (fun _ _ => rfl)) (nomark _)) (pa_cons pe_str (pa_cons (uv 6 (hv := vi_look_printer_6)) pa_nil)))))
      (pss_cons (ps_setLc (i := 8) (own := [("part", 14)]) (g := gName 14) rfl sc_look_printer.nd rfl rfl (sw_true rfl rfl rfl (by decide +kernel)) (ui_seq (pe_callD (ok_parts_of T) (hr.mono (by decide)) rfl T.m_parts_of T.F_parts_of.kp T.b_parts_of .nil (fun σ => passAt (takes_of rfl rfl rfl rfl) σ) (pa_cons (uv 0 (hv := vi_look_printer_0)) (pa_cons (uv 6 (hv := vi_look_printer_6)) pa_nil)))) (blkOk_by (own := [("part", 14)]) (N := N_look_printer) (sc := defScope s_look_printer) (by decide +kernel)) (fun _ _ _ _ _ => (pg_name (i := 14) sc_look_printer.nd rfl (by first | exact Or.inl rfl | exact Or.inr rfl))) (fun _ _ _ _ _ => pts_nil) (fun _ _ _ _ _ => (pe_ix (show IxR _ (uIx K) from ux_seq) (uv 3) (uv 14) (fun _ _ => rfl))))
      (pss_cons (ps_set (i := 9) sc_look_printer.nd rfl lo_look_printer_9 pe_dnewT)
      (pss_one (ps_for (passes_of rfl) rfl (ui_seq (uv 7 (hv := vi_look_printer_7))) (pg_name (i := 10) sc_look_printer.nd rfl lo_look_printer_10) (pss_one (ps_for (passes_of rfl) rfl (ui_seq (uv 10 (hv := vi_look_printer_10))) (pg_name (i := 11) sc_look_printer.nd rfl lo_look_printer_11) (pss_cons (ps_set (i := 12) sc_look_printer.nd rfl lo_look_printer_12 (pe_callD (ok_look_item T) (hr.mono (by decide)) rfl T.m_look_item T.F_look_item.kp T.b_look_item .nil (fun σ => passAt (takes_of rfl rfl rfl rfl) σ) (pa_cons (uv 11 (hv := vi_look_printer_11)) (pa_cons (uv 2 (hv := vi_look_printer_2)) (pa_cons (uv 8 (hv := vi_look_printer_8)) (pa_cons (uv 9 (hv := vi_look_printer_9)) pa_nil))))))
      (pss_one (ps_expr (pe_callD (ok_need T) (hr.mono (by decide)) rfl T.m_need T.F_need.kp T.b_need .nil (fun σ => passAt (takes_of rfl rfl rfl rfl) σ) (pa_cons (pe_cmpR uo_isN (uv 12 (hv := vi_look_printer_12)) pe_non (nomark _)) (pa_cons (uv 12 (hv := vi_look_printer_12)) (pa_cons (uv 6 (hv := vi_look_printer_6)) pa_nil)))))))))))))))
      (pss_one (ps_ret pe_bl)))))))), ?_⟩
  obtain ⟨wa, wx, rfl, hwa, rs⟩ := id rw1.tupI
  have lx : wx.length = wd.length := by rw [rs.len, List.length_map]
  obtain ⟨a, c, b, xs, rfl, ha, hc, hb, rx⟩ := pr_at rv
  walk_at "go"
  refine g_tup3 ha ?_
  walk_at "go"
  have lc0 : (r.2.1.map V.int).length = r.2.1.length := List.length_map _
  have rc := rb.counts
  have rl := rb.lets
  refine ⟨wd, _, rfl, rw1, Nat.le_trans ok.names (by decide), ok.row, fun ml H0 hml0 e0 hml => ?_⟩
  walk_at "go"
  refine ⟨r.1, rfl, rl, fun H1 e1 => ?_⟩
  walk_at "go"
  have e01 := e0.trans e1
  refine ⟨_, _, _, rfl, fun k1 => ?_, fun k1 dx H' e hx => q0 ("letters", "") (if_neg (by rw [k1]; decide)) _ _ (e01.trans e) hx⟩
  have y1 : duePr wd r = if cnts2 wd r.2.1 = true then if r.2.2.length = (tabFrom 0 wd).length then dueRps r.1 r.2.1 wd ((tabFrom 0 wd).zip r.2.2) else some ("rules", "") else some ("counts", "") := if_pos k1
  rw [y1] at q0 q1
  have hwa1 := e01 _ _ hwa
  have hc1 := e01 _ _ hc
  have hb1 := e01 _ _ hb
  have hml1 := e1 _ _ hml
  walk_at "go"
  refine i_eqI (fun c2 => ?_) fun c2 => ?_
  rotate_left
  · walk_at "go"
    refine ⟨_, _, _, rfl, fun z => absurd z (by decide), fun _ dx H' e hx => q0 _ (if_neg (by unfold cnts2; rw [decide_eq_false (by omega), Bool.false_and]; exact Bool.false_ne_true)) _ _ (e01.trans e) hx⟩
  walk_at "go"
  refine g_seqTs ?_
  walk_at "go"
  refine ⟨_, rfl, ⟨_, sqT hc1⟩, fun D hD => ?_⟩
  refine lc_mapE walk_tup (fun u _ v => ∃ n, r.2.1[u]? = some n ∧ v = V.bl (decide (0 ≤ n ∧ n ≤ 2))) (by omega) hD (fun _ _ _ _ _ r => r) (fun H8 e => sqT (e _ _ hc1)) ?_ ?_
  · rintro u y H8 H9 P N hu e8 ⟨rfl, hy⟩ k
    rw [List.getElem?_map] at hy
    cases en : r.2.1[u]? with
    | none => rw [en] at hy; cases hy
    | some n =>
      rw [en] at hy
      cases hy
      walk_at "go"
      refine ⟨rfl, ?_⟩
      walk_at "go"
      refine i_d (fun c0 => ?_) fun c0 => ?_
      · walk_at "go"
        refine k _ _ (Ex.refl _) ⟨n, en, ?_⟩
        congr 1
        by_cases c2 : n ≤ 2
        · rw [decide_eq_true c2, decide_eq_true ⟨c0, c2⟩]
        · rw [decide_eq_false c2, decide_eq_false fun z => c2 z.2]
      · refine k _ _ (Ex.refl _) ⟨n, en, ?_⟩
        rw [decide_eq_false fun z => c0 z.1]
  intro H2 acc e2 hacc hla hr2
  rw [lc0] at hla
  have ea := acc_map hla hr2
  have ea2 : acc = (r.2.1.map fun n => decide (0 ≤ n ∧ n ≤ 2)).map V.bl := by rw [ea, List.map_map]; rfl
  walk_at "go"
  refine g_all (ea2 ▸ hacc) ?_
  have eall : (r.2.1.map fun n => decide (0 ≤ n ∧ n ≤ 2)).all id = r.2.1.all fun c => decide (0 ≤ c ∧ c ≤ 2) := by rw [List.all_map]; rfl
  rw [eall]
  have e02 := e01.trans e2
  walk_at "go"
  refine ⟨_, _, _, rfl, fun c3 => ?_, fun c3 dx H' e hx => q0 _ (if_neg (by unfold cnts2; rw [c3, Bool.and_false]; exact Bool.false_ne_true)) _ _ (e02.trans e) hx⟩
  have cok : cnts2 wd r.2.1 = true := by
    unfold cnts2
    rw [c3, decide_eq_true (by omega)]
    rfl
  rw [if_pos cok] at q0 q1
  have lnm : ((mkNames wd).map V.str).length = (tabFrom 0 wd).length := by rw [List.length_map, ← tab_names wd 0, List.length_map]
  have lxs : xs.length = r.2.2.length := by rw [rx.len, List.length_map]
  have hb2 := e2 _ _ hb1
  have hml2 := e2 _ _ hml1
  walk_at "go"
  rw [decInt]
  refine ⟨_, _, _, rfl, fun c4 => ?_, fun c4 dx H' e hx => q0 _ (if_neg (by have := of_decide_eq_false c4; omega)) _ _ (e02.trans e) hx⟩
  replace c4 := of_decide_eq_true c4
  rw [if_pos (by omega)] at q0 q1
  walk_at "go"
  refine ⟨false, true, ml, b, _, _, rfl, sqL hml2, sqT hb2, ?_⟩
  refine for_it (walk_zipS (k1 := false) (k2 := true) (by omega)) (fun i σ H4 => (∃ o6 o7 o8 o9 o10 o11 o12, σ = [some (.ref wa), some (.ref a), some (.str r.1), some (.ref c), some (.ref b), some (.ref ml), o6, o7, o8, o9, o10, o11, o12, none, none]) ∧ Ex H2 H4 ∧ dueRps r.1 r.2.1 wd ((tabFrom 0 wd).zip r.2.2) = dueRps r.1 r.2.1 wd (((tabFrom 0 wd).zip r.2.2).drop i)) ⟨⟨none, none, none, none, none, none, none, rfl⟩, Ex.refl _, rfl⟩ (fun i σ H4 _ h => ⟨sqL (h.2.1 _ _ hml2), sqT (h.2.1 _ _ hb2)⟩) ?_ ?_
  · rintro i x σ H4 H4' hi ⟨⟨o6, o7, o8, o9, o10, o11, o12, rfl⟩, e4, hE⟩ ⟨Tp, x, y, rfl, hTp, rfl, hx, hy⟩
    replace hx : ((mkNames wd).map V.str)[i]? = some x := hx
    replace hy : xs[i]? = some y := hy
    obtain ⟨rl, erl, ry⟩ := rx.get hy
    rw [List.getElem?_map] at erl
    cases er : r.2.2[i]? with
    | none => rw [er] at erl; cases erl
    | some rl0 =>
    rw [er] at erl
    cases erl
    cases et : (tabFrom 0 wd)[i]? with
    | none =>
      have := List.getElem?_eq_none_iff.1 et
      omega
    | some e =>
    rw [← tab_names wd 0, List.map_map, List.getElem?_map, et] at hx
    cases hx
    have he := List.mem_of_getElem? et
    obtain ⟨ek, dl, d2, din⟩ := dueOf_in ok he
    rw [drop_at (zip_at et er), dueRps] at hE
    have q0r : ∀ s, dueRp r.1 r.2.1 wd e rl0 = some s → ∀ d H', Ex H H' → H' d = some (.xd [("maker", .str e.2.1), ("word", .str s)]) → E (.ref T.a_NoPrinter) (some d) H' := fun s hs d H' e' hd => q0 (s, e.2.1) (by rw [hE, hs]; rfl) d H' e' hd
    obtain ⟨sa, ss, rfl, hsa, rss⟩ := Rep.tupI ry
    have lss : ss.length = rl0.length := by rw [rss.len, List.length_map]
    have rB := rb.rule rl0 (List.mem_of_getElem? er)
    have e5 := Ex.new (o := .tup [.str e.2.1, .ref sa]) hTp
    have e45 := e4.trans e5
    have eH5 := e02.trans e45
    have hsa5 := eH5 _ _ hsa
    refine g_tup2 upd_same ?_
    walk_at "go"
    refine ⟨wd, _, e, rfl, rw1.ex eH5, ok.pre, he, fun H6 e6 => ?_⟩
    have eH6 := eH5.trans e6
    have rB1 := rB.rows
    walk_at "go"
    refine g_ixT (eH6 _ _ hc) (cnt_at (by omega) (by omega)) ?_
    walk_at "go"
    rw [decInt]
    unfold dueRp at q0r hE
    refine ⟨_, _, _, rfl, fun c5 => ?_, fun c5 dx H' e hx => q0r _ (if_neg (by have := of_decide_eq_false c5; omega)) _ _ (eH6.trans e) hx⟩
    have c6 : (rl0.length : Int) = cntAt r.2.1 e.1 := by have := of_decide_eq_true c5; omega
    rw [if_pos c6] at q0r hE
    walk_at "go"
    refine g_seqTs ?_
    walk_at "go"
    refine ⟨wd, _, e, rfl, rw1.ex eH6, ok.pre, he, fun t1 H7 e7 ht1 => ?_⟩
    have eH7 := eH6.trans e7
    rw [dueOf_vals] at ht1
    have hc7 := eH7 _ _ hc
    have ldo : ((dueOf wd e).map V.int).length = (dueOf wd e).length := List.length_map _
    walk_at "go"
    refine ⟨_, rfl, ⟨_, sqT ht1⟩, fun D hD => ?_⟩
    refine lc_mapE walk_tup (fun u _ v => ∃ n, (dueOf wd e)[u]? = some n ∧ v = V.int (cntAt r.2.1 n)) (by omega) hD (fun _ _ _ _ _ r => r) (fun H8 e => sqT (e _ _ ht1)) ?_ ?_
    · rintro u y H8 H9 P N hu e8 ⟨rfl, hy⟩ k
      rw [List.getElem?_map] at hy
      cases en : (dueOf wd e)[u]? with
      | none => rw [en] at hy; cases hy
      | some n =>
        rw [en] at hy
        cases hy
        have din' := din n (List.mem_of_getElem? en)
        walk_at "go"
        refine ⟨rfl, ?_⟩
        walk_at "go"
        refine g_ixT (e8 _ _ hc7) (cnt_at din'.1 (by omega)) ?_
        exact k _ _ (Ex.refl _) ⟨n, en, rfl⟩
    intro H8 oacc e8 hown hlo hro
    rw [ldo] at hlo
    have eo := acc_map hlo hro
    have eo2 : oacc = (ownP r.2.1 wd e).map V.int := by rw [eo]; unfold ownP; rw [List.map_map]; rfl
    rw [eo2] at hown
    have lown : (ownP r.2.1 wd e).length ≤ 1000 := by unfold ownP; rw [List.length_map]; omega
    have eH8 := eH7.trans e8
    walk_at "go"
    refine g_dnewT fun d hd0 => ?_
    have hsa8 := eH8 _ _ hsa
    have e9 := Ex.new (o := .dT []) hd0
    have e28 : Ex H2 H8 := e45.trans (e6.trans (e7.trans e8))
    walk_at "go"
    refine g_seqTs ?_
    walk_at "go"
    refine ⟨_, rfl, ⟨_, sqT (e9 _ _ hsa8)⟩, ?_⟩
    refine for_it walk_tup (fun j σ Hb => (∃ o10 o11 o12, σ = [some (.ref wa), some (.ref a), some (.str r.1), some (.ref c), some (.ref b), some (.ref ml), some (.str e.2.1), some (.ref sa), some (.ref D), some (.ref d), o10, o11, o12, none, none]) ∧ Ex H8 Hb ∧ ∃ seen, Hb d = some (.dT (seenK seen)) ∧ seen.length + (rl0.drop j).flatten.length ≤ 1000 ∧ dueIts r.1 (ownP r.2.1 wd e) [] rl0.flatten = dueIts r.1 (ownP r.2.1 wd e) seen (rl0.drop j).flatten) ⟨⟨_, _, _, rfl⟩, e9, [], upd_same, by have := rB.all; rw [List.drop_zero, List.length_nil]; omega, rfl⟩ (fun j σ Hb _ h => sqT ((eH8.trans h.2.1) _ _ hsa)) ?_ ?_
    · rintro j x σ Hb Hb' hj ⟨⟨o10, o11, o12, rfl⟩, eb, seen, hdb, lsn, hE2⟩ ⟨rfl, hx⟩
      replace hx : ss[j]? = some x := hx
      obtain ⟨sm, esm, rsm⟩ := rss.get hx
      rw [List.getElem?_map] at esm
      cases es : rl0[j]? with
      | none => rw [es] at esm; cases esm
      | some s0 =>
      rw [es] at esm
      cases esm
      obtain ⟨ta, ts, rfl, hta, rts⟩ := Rep.tupI rsm
      have lts : ts.length = s0.length := by rw [rts.len, List.length_map]
      have ms0 := List.mem_of_getElem? es
      have l0 := rB.row s0 ms0
      rw [drop_at es, List.flatten_cons] at hE2 lsn
      rw [List.length_append] at lsn
      have eHb := eH8.trans eb
      have htab := eHb _ _ hta
      walk_at "go"
      refine g_seqTs ?_
      walk_at "go"
      refine ⟨_, rfl, ⟨_, sqT htab⟩, ?_⟩
      refine for_it walk_tup (fun k σ Hc => (∃ o11 o12, σ = [some (.ref wa), some (.ref a), some (.str r.1), some (.ref c), some (.ref b), some (.ref ml), some (.str e.2.1), some (.ref sa), some (.ref D), some (.ref d), some (.ref ta), o11, o12, none, none]) ∧ Ex H8 Hc ∧ ∃ seen, Hc d = some (.dT (seenK seen)) ∧ seen.length + ((s0.drop k).length + (rl0.drop (j + 1)).flatten.length) ≤ 1000 ∧ dueIts r.1 (ownP r.2.1 wd e) [] rl0.flatten = dueIts r.1 (ownP r.2.1 wd e) seen (s0.drop k ++ (rl0.drop (j + 1)).flatten)) ⟨⟨_, _, rfl⟩, eb, seen, hdb, lsn, hE2⟩ (fun k σ Hc _ h => sqT ((eH8.trans h.2.1) _ _ hta)) ?_ ?_
      · rintro k x σ Hc Hc' hk ⟨⟨o11, o12, rfl⟩, ec, seen, hdc, lsn, hE3⟩ ⟨rfl, hx⟩
        replace hx : ts[k]? = some x := hx
        obtain ⟨tm, etm, rtm⟩ := rts.get hx
        rw [List.getElem?_map] at etm
        cases ett : s0[k]? with
        | none => rw [ett] at etm; cases etm
        | some t0 =>
        rw [ett] at etm
        cases etm
        rw [drop_at ett, List.cons_append, dueIts] at hE3
        rw [drop_at ett, List.length_cons] at lsn
        have eHc := eH8.trans ec
        have ib := rB.item s0 ms0 t0 (List.mem_of_getElem? ett)
        walk_at "go"
        refine ⟨x, t0, r.1, D, d, ownP r.2.1 wd e, seen, rfl, rtm.ex eHc, ib, rl, ec _ _ hown, lown, hdc, by omega, fun y hy Hd ed => ?_, fun hn Hd bd hdd => ?_⟩
        · walk_at "go"
          refine g_isNstr ?_
          walk_at "go"
          refine ⟨_, _, _, rfl, fun z => absurd z (by decide), fun _ dx H' e' hx => ?_⟩
          exact q0r y (by rw [hE3, hy]; rfl) _ _ ((eHc.trans ed).trans e') hx
        · rw [hn] at hE3
          have bl : (bxs t0).length ≤ 1 := by cases t0 with
            | inl _ => exact Nat.zero_le _
            | inr _ => exact Nat.le_refl _
          have ed : Ex H8 Hd := Ex.of_but ((ec.but d).trans bd) hd0
          walk_at "go"
          refine ⟨_, _, _, rfl, fun _ => ?_, fun z => absurd z (by decide)⟩
          walk_at "go"
          exact ⟨⟨_, _, rfl⟩, ed, seen ++ bxs t0, hdd, by rw [List.length_append]; omega, hE3⟩
      · rintro σ Hc ⟨⟨o11, o12, rfl⟩, ec, seen, hdc, lsn, hE3⟩
        rw [lts, List.drop_length, List.nil_append] at hE3
        exact ⟨⟨_, _, _, rfl⟩, ec, seen, hdc, by omega, hE3⟩
    · rintro σ Hb ⟨⟨o10, o11, o12, rfl⟩, eb, seen, hdb, lsn, hE2⟩
      rw [lss, List.drop_length] at hE2
      have hn : dueIts r.1 (ownP r.2.1 wd e) [] rl0.flatten = none := hE2
      rw [hn] at hE
      exact ⟨⟨_, _, _, _, _, _, _, rfl⟩, e28.trans eb, hE⟩
  · rintro σ H4 ⟨⟨o6, o7, o8, o9, o10, o11, o12, rfl⟩, e4, hE⟩
    rw [List.drop_eq_nil_of_le (by rw [List.length_zip]; omega), dueRps] at hE
    walk_at "go"
    exact q1 hE _ (e02.trans e4)
theorem vi_law_printer_0 : Vis (defScope s_law_printer) "_law_box_here" := by first | exact Or.inl (by decide +kernel) | exact Or.inr (Or.inl (by decide +kernel)) | exact Or.inr (Or.inr (by decide +kernel))
theorem vi_law_printer_1 : Vis (defScope s_law_printer) "_law_wood_here" := by first | exact Or.inl (by decide +kernel) | exact Or.inr (Or.inl (by decide +kernel)) | exact Or.inr (Or.inr (by decide +kernel))
theorem vi_law_printer_2 : Vis (defScope s_law_printer) "_law_letters_here" := by first | exact Or.inl (by decide +kernel) | exact Or.inr (Or.inl (by decide +kernel)) | exact Or.inr (Or.inr (by decide +kernel))
theorem vi_law_printer_3 : Vis (defScope s_law_printer) "_law_counts" := by first | exact Or.inl (by decide +kernel) | exact Or.inr (Or.inl (by decide +kernel)) | exact Or.inr (Or.inr (by decide +kernel))
theorem vi_law_printer_4 : Vis (defScope s_law_printer) "_law_rules" := by first | exact Or.inl (by decide +kernel) | exact Or.inr (Or.inl (by decide +kernel)) | exact Or.inr (Or.inr (by decide +kernel))
theorem vi_law_printer_6 : Vis (defScope s_law_printer) "_law_kind" := by first | exact Or.inl (by decide +kernel) | exact Or.inr (Or.inl (by decide +kernel)) | exact Or.inr (Or.inr (by decide +kernel))
theorem vi_law_printer_7 : Vis (defScope s_law_printer) "_law_parts" := by first | exact Or.inl (by decide +kernel) | exact Or.inr (Or.inl (by decide +kernel)) | exact Or.inr (Or.inr (by decide +kernel))
theorem lo_law_printer_4 : Loc (defScope s_law_printer) "_law_rules" := by first | exact Or.inl (by decide +kernel) | exact Or.inr (by decide +kernel)
theorem lo_law_printer_5 : Loc (defScope s_law_printer) "_law_maker" := by first | exact Or.inl (by decide +kernel) | exact Or.inr (by decide +kernel)
theorem lo_law_printer_6 : Loc (defScope s_law_printer) "_law_kind" := by first | exact Or.inl (by decide +kernel) | exact Or.inr (by decide +kernel)
theorem lo_law_printer_7 : Loc (defScope s_law_printer) "_law_parts" := by first | exact Or.inl (by decide +kernel) | exact Or.inr (by decide +kernel)
theorem ok_law_printer (T : Txt K mg) : FnOk P w K mg base (L2.CX P w) 4 T.a_law_printer T.d_law_printer ["_law_box_here", "_law_wood_here", "_law_letters_here", "_law_counts"] spPrinter := by
  refine T.F_law_printer.okX sc_law_printer (fun vs H Q E h => ?_) (fun cdv A outer s H vs Q E hr h => ?_)
  · obtain ⟨_, _, _, _, _, _, rfl, _⟩ := h
    rfl
  obtain ⟨p, c, wd, v, ls, cs, rfl, hb, rv, ok, lok, hc, lcs, hcs, q⟩ := h
  refine ⟨_, (pss_cons (ps_set (i := 4) sc_law_printer.nd rfl lo_law_printer_4 (pe_lst pa_nil))
      (pss_cons (ps_for (passes_of rfl) rfl (ui_seq (pe_callD (ok_law_makers T) (hr.mono (by decide)) rfl T.m_law_makers T.F_law_makers.kp T.b_law_makers .nil (fun σ => passAt (takes_of rfl rfl rfl rfl) σ) (pa_cons (uv 1 (hv := vi_law_printer_1)) pa_nil))) (pg_tup rfl (pgs_cons (pg_name (i := 5) sc_law_printer.nd rfl lo_law_printer_5) (pgs_cons (pg_name (i := 6) sc_law_printer.nd rfl lo_law_printer_6) (pgs_cons (pg_name (i := 7) sc_law_printer.nd rfl lo_law_printer_7) pgs_nil)))) (pss_one (ps_expr (pe_bm PySem.F.plainAttrs_list PySem.F.slot_list_append PySem.F.type_list_append mt_append (uv 4 (hv := vi_law_printer_4)) (pa_cons (pe_callD (ok_law_rows_of_items T) (hr.mono (by decide)) rfl T.m_law_rows_of_items T.F_law_rows_of_items.kp T.b_law_rows_of_items .nil (fun σ => passAt (takes_of rfl rfl rfl rfl) σ) (pa_cons (uv 0 (hv := vi_law_printer_0)) (pa_cons (uv 2 (hv := vi_law_printer_2)) (pa_cons (pe_ix ux_seq (uv 3 (hv := vi_law_printer_3)) (uv 6 (hv := vi_law_printer_6)) (fun _ _ => rfl)) (pa_cons (pe_callD (ok_law_boxes_left T) (hr.mono (by decide)) rfl T.m_law_boxes_left T.F_law_boxes_left.kp T.b_law_boxes_left .nil (fun σ => passAt (takes_of rfl rfl rfl rfl) σ) (pa_cons (uv 7 (hv := vi_law_printer_7)) (pa_cons (uv 3 (hv := vi_law_printer_3)) pa_nil))) pa_nil))))) pa_nil)))))
      (pss_one (ps_ret (pe_tup (pa_cons (uv 2 (hv := vi_law_printer_2)) (pa_cons (uv 3 (hv := vi_law_printer_3)) (pa_cons (pe_callTy uk_tup rfl T.z_tuple boot_tuple (pa_cons (uv 4 (hv := vi_law_printer_4)) pa_nil)) pa_nil)))))))), ?_⟩
  obtain ⟨wa, wx, rfl, hwa, rs⟩ := id rv.tupI
  have pk := ok.kinds
  have tabl := ok.many
  have l1 := lok.pos
  have l9 := lok.most
  walk_at "go"
  refine g_new fun RL hRL => ?_
  have nR := hb.ne hRL
  have e1 := Ex.new (o := .lst []) hRL
  have hb1 := hb.ex e1
  have hR1 := @upd_same H RL (.lst [])
  revert e1 hb1 hR1
  generalize upd H RL (.lst []) = H1
  intro e1 hb1 hR1
  walk_at "go"
  refine g_seqLs ?_
  walk_at "go"
  refine ⟨wd, _, rfl, rv.ex e1, ok, fun ml H4 us e4 hml hDu => ?_⟩
  have lus := hDu.1
  have hb4 := hb1.ex e4
  have hc4 := e4 _ _ (e1 _ _ hc)
  have hR4 := e4 _ _ hR1
  have nml : ml ≠ p := hb4.neL hml fun x hx n z => by
    obtain ⟨j, hj⟩ := List.mem_iff_getElem?.1 hx
    obtain ⟨_, _, _, _, h, _⟩ := hDu.2 j x hj
    rw [h] at z
    cases z
  walk_at "go"
  refine ⟨_, rfl, ⟨_, sqL hml⟩, ?_⟩
  refine for_it walk_list (fun i σ Hc => (∃ o5 o6 o7, σ = [some (.ref p), some (.ref wa), some (.str ls), some (.ref c), some (.ref RL), o5, o6, o7]) ∧ But p H Hc ∧ Box Hc p ∧ Tk H4 Hc ∧ Hc ml = some (.lst us) ∧ ∃ (rs : List V) (rls : List (List (List Itm))), Hc RL = some (.lst rs) ∧ Reps Hc (rls.map rpD) rs ∧ rls.length = i ∧ ∀ (j : Nat) (e : Nat × Mk) (x : List (List Itm)), (tabFrom 0 wd)[j]? = some e → rls[j]? = some x → RpOk ls cs (dueOf wd e) (cntAt cs e.1) x) ⟨⟨_, _, _, rfl⟩, (e1.trans e4).but p, hb4, Tk.refl _, hml, [], [], hR4, by simp only [List.map, Reps], rfl, fun j e x _ z => by simp at z⟩ (fun i σ Hc _ h => sqL h.2.2.2.2.1) ?_ ?_
  · rintro i x σ Hca Hc hi ⟨⟨o5, o6, o7, rfl⟩, bc, hbc, tc, hmlc, rs, rls, hRc, rrs, lrl, hrls⟩ ⟨rfl, hx⟩
    obtain ⟨e, et, p1, t1, rfl, hp1, ht1⟩ := hDu.2 i x hx
    rw [dueOf_vals] at ht1
    have hem := List.mem_of_getElem? et
    obtain ⟨ek, dl, d2, din⟩ := dueOf_in ok hem
    have hcc := tc _ _ hc4
    have ecn := cnt_at (cs := cs) (n := (e.1 : Nat)) (by omega) (by omega)
    have hcn : 0 ≤ cntAt cs (e.1 : Nat) ∧ cntAt cs (e.1 : Nat) ≤ 2 := by
      unfold cntAt
      rw [List.getD_eq_getElem?_getD, List.getElem?_eq_getElem (by omega)]
      exact hcs _ (List.getElem_mem _)
    obtain ⟨n, en⟩ := Int.eq_ofNat_of_zero_le hcn.1
    rw [en] at ecn hcn
    refine g_tup3 (tc _ _ hp1) ?_
    walk_at "go"
    refine g_ixT hcc ecn ?_
    walk_at "go"
    refine ⟨t1, c, dueOf wd e, cs, rfl, tc _ _ ht1, hcc, by omega, fun x hx => by have := din x hx; omega, hcs, fun l bv bs H5 hl0 e5 hl5 rb lb nb hbs => ?_⟩
    have hb5 := hbc.ex e5
    walk_at "go"
    refine ⟨p, l, ls, n, cs, dueOf wd e, bs, bv, rfl, hb5, l1, by omega, by omega, hl5, rb, lb, nb, hbs, fun xv xr H6 xok rx b6 hb6 => ?_⟩
    have b56 : But p Hc H6 := fun b o n1 e => b6 b o n1 (fun z => by rw [z, hl0] at e; cases e) (e5 _ _ e)
    have nml2 : ml ≠ l := fun z => by rw [z, hl0] at hmlc; cases hmlc
    have hR6 := b56 _ _ nR hRc
    have lrs : rs.length = rls.length := by rw [rrs.len, List.length_map]
    have li := (List.getElem?_eq_some_iff.1 et).1
    walk_at "go"
    refine g_app hR6 (Nat.lt_of_le_of_lt (by omega : rs.length ≤ 1000) (by decide)) ?_
    have t6 := hbc.tk b56
    have tu := tk_put (ys := rs ++ [xv]) hR6
    have nmR : ml ≠ RL := fun z => by
      rw [z, hR4] at hml
      cases hml
      simp at hx
    walk_at "go"
    refine ⟨⟨_, _, _, rfl⟩, (bc.trans b56).at_new hRL, hb6.at_upd nR, tc.trans (t6.trans tu), by rw [upd_ne nmR]; exact b56 _ _ nml hmlc, rs ++ [xv], rls ++ [xr], upd_same, reps_snoc (rrs.tkm (t6.trans tu) rp_hard) (rx.tk tu (rp_hard _)), by rw [List.length_append, lrl]; rfl, fun j f y hf hy => ?_⟩
    by_cases cj : j < rls.length
    · rw [List.getElem?_append_left cj] at hy
      exact hrls j f y hf hy
    · rw [List.getElem?_append_right (by omega)] at hy
      have ej : j = i := by
        have := (List.getElem?_eq_some_iff.1 hy).1
        rw [List.length_singleton] at this
        omega
      subst ej
      rw [lrl, Nat.sub_self] at hy
      cases hy
      rw [et] at hf
      cases hf
      rw [en]
      exact xok
  · rintro σ Hc ⟨⟨o5, o6, o7, rfl⟩, bc, hbc, tc, hmlc, rs, rls, hRc, rrs, lrl, hrls⟩
    walk_at "go"
    refine g_tupOf hRc fun t5 ht5 => ?_
    have e5 := Ex.new (o := .tup rs) ht5
    have h5 := @upd_same Hc t5 (.tup rs)
    revert e5 h5
    generalize upd Hc t5 (.tup rs) = H5
    intro e5 h5
    walk_at "go"
    refine g_new fun t6 ht6 => ?_
    have e6 := Ex.new (o := .tup [.str ls, .ref c, .ref t5]) ht6
    have e56 := e5.trans e6
    refine q (ls, cs, rls) _ _ ⟨lok, lcs, hcs, by show rls.length = _; omega, hrls⟩ ?_ (bc.trans (e56.but p)) (hbc.ex e56)
    refine Rep.tupO upd_same ⟨_, _, rfl, Rep.s _, _, _, rfl, Rep.ints (e56 _ _ (tc _ _ hc4)), _, _, rfl, Rep.tupO (e6 _ _ h5) (rrs.ex e56), by simp only [Reps]⟩
theorem vi_law_odd_0 : Vis (defScope s_law_odd) "_law_box_here" := by first | exact Or.inl (by decide +kernel) | exact Or.inr (Or.inl (by decide +kernel)) | exact Or.inr (Or.inr (by decide +kernel))
theorem vi_law_odd_1 : Vis (defScope s_law_odd) "_law_wood_here" := by first | exact Or.inl (by decide +kernel) | exact Or.inr (Or.inl (by decide +kernel)) | exact Or.inr (Or.inr (by decide +kernel))
theorem vi_law_odd_2 : Vis (defScope s_law_odd) "_law_printer_here" := by first | exact Or.inl (by decide +kernel) | exact Or.inr (Or.inl (by decide +kernel)) | exact Or.inr (Or.inr (by decide +kernel))
theorem vi_law_odd_3 : Vis (defScope s_law_odd) "_law_letters_here" := by first | exact Or.inl (by decide +kernel) | exact Or.inr (Or.inl (by decide +kernel)) | exact Or.inr (Or.inr (by decide +kernel))
theorem vi_law_odd_4 : Vis (defScope s_law_odd) "_law_counts" := by first | exact Or.inl (by decide +kernel) | exact Or.inr (Or.inl (by decide +kernel)) | exact Or.inr (Or.inr (by decide +kernel))
theorem vi_law_odd_5 : Vis (defScope s_law_odd) "_law_rules" := by first | exact Or.inl (by decide +kernel) | exact Or.inr (Or.inl (by decide +kernel)) | exact Or.inr (Or.inr (by decide +kernel))
theorem vi_law_odd_6 : Vis (defScope s_law_odd) "_law_form" := by first | exact Or.inl (by decide +kernel) | exact Or.inr (Or.inl (by decide +kernel)) | exact Or.inr (Or.inr (by decide +kernel))
theorem vi_law_odd_7 : Vis (defScope s_law_odd) "_law_makers_here" := by first | exact Or.inl (by decide +kernel) | exact Or.inr (Or.inl (by decide +kernel)) | exact Or.inr (Or.inr (by decide +kernel))
theorem vi_law_odd_8 : Vis (defScope s_law_odd) "_law_k" := by first | exact Or.inl (by decide +kernel) | exact Or.inr (Or.inl (by decide +kernel)) | exact Or.inr (Or.inr (by decide +kernel))
theorem vi_law_odd_9 : Vis (defScope s_law_odd) "_law_m" := by first | exact Or.inl (by decide +kernel) | exact Or.inr (Or.inl (by decide +kernel)) | exact Or.inr (Or.inr (by decide +kernel))
theorem vi_law_odd_10 : Vis (defScope s_law_odd) "_law_more" := by first | exact Or.inl (by decide +kernel) | exact Or.inr (Or.inl (by decide +kernel)) | exact Or.inr (Or.inr (by decide +kernel))
theorem vi_law_odd_11 : Vis (defScope s_law_odd) "_law_own" := by first | exact Or.inl (by decide +kernel) | exact Or.inr (Or.inl (by decide +kernel)) | exact Or.inr (Or.inr (by decide +kernel))
theorem lo_law_odd_3 : Loc (defScope s_law_odd) "_law_letters_here" := by first | exact Or.inl (by decide +kernel) | exact Or.inr (by decide +kernel)
theorem lo_law_odd_4 : Loc (defScope s_law_odd) "_law_counts" := by first | exact Or.inl (by decide +kernel) | exact Or.inr (by decide +kernel)
theorem lo_law_odd_5 : Loc (defScope s_law_odd) "_law_rules" := by first | exact Or.inl (by decide +kernel) | exact Or.inr (by decide +kernel)
theorem lo_law_odd_8 : Loc (defScope s_law_odd) "_law_k" := by first | exact Or.inl (by decide +kernel) | exact Or.inr (by decide +kernel)
theorem lo_law_odd_9 : Loc (defScope s_law_odd) "_law_m" := by first | exact Or.inl (by decide +kernel) | exact Or.inr (by decide +kernel)
theorem lo_law_odd_10 : Loc (defScope s_law_odd) "_law_more" := by first | exact Or.inl (by decide +kernel) | exact Or.inr (by decide +kernel)
theorem ok_law_odd (T : Txt K mg) : FnOk P w K mg base (L2.CX P w) 4 T.a_law_odd T.d_law_odd ["_law_box_here", "_law_wood_here", "_law_printer_here"] spOddP := by
  refine T.F_law_odd.okX sc_law_odd (fun vs H Q E h => ?_) (fun cdv A outer s H vs Q E hr h => ?_)
  · obtain ⟨_, _, _, _, _, _, rfl, _⟩ := h
    rfl
  obtain ⟨p, wd, wv, pv, pr, n, rfl, hb, rw1, ok, pos, rv, np, hn, q⟩ := h
  refine ⟨_, (pss_cons (ps_asg (uv 2 (hv := vi_law_odd_2)) (pg_tup rfl (pgs_cons (pg_name (i := 3) sc_law_odd.nd rfl lo_law_odd_3) (pgs_cons (pg_name (i := 4) sc_law_odd.nd rfl lo_law_odd_4) (pgs_cons (pg_name (i := 5) sc_law_odd.nd rfl lo_law_odd_5) pgs_nil)))))
      (pss_cons (ps_par (i := 6) (j := 7) rfl sc_law_odd.nd rfl rfl (by decide) rfl rfl (pa_cons (pe_callD (ok_law_take T) (hr.mono (by decide)) rfl T.m_law_take T.F_law_take.kp T.b_law_take .nil (fun σ => passAt (takes_of rfl rfl rfl rfl) σ) (pa_cons (uv 0 (hv := vi_law_odd_0)) (pa_cons pe_int pa_nil))) (pa_cons (pe_callD (ok_law_makers T) (hr.mono (by decide)) rfl T.m_law_makers T.F_law_makers.kp T.b_law_makers .nil (fun σ => passAt (takes_of rfl rfl rfl rfl) σ) (pa_cons (uv 1 (hv := vi_law_odd_1)) pa_nil)) pa_nil)) rfl)
      (pss_cons (ps_if (pt_cmpR op_eq (uv 6 (hv := vi_law_odd_6)) pe_int (nomark _)) (pss_one (ps_ret (pe_tup (pa_cons (pe_callD (ok_law_odd_letters T) (hr.mono (by decide)) rfl T.m_law_odd_letters T.F_law_odd_letters.kp T.b_law_odd_letters .nil (fun σ => passAt (takes_of rfl rfl rfl rfl) σ) (pa_cons (uv 0 (hv := vi_law_odd_0)) (pa_cons (uv 3 (hv := vi_law_odd_3)) pa_nil))) (pa_cons (uv 4 (hv := vi_law_odd_4)) (pa_cons (uv 5 (hv := vi_law_odd_5)) pa_nil)))))) pss_nil)
      (pss_cons (ps_if (pt_cmpR op_eq (uv 6 (hv := vi_law_odd_6)) pe_int (nomark _)) (pss_cons (ps_set (i := 8) sc_law_odd.nd rfl lo_law_odd_8 (pe_callD (ok_law_take T) (hr.mono (by decide)) rfl T.m_law_take T.F_law_take.kp T.b_law_take .nil (fun σ => passAt (takes_of rfl rfl rfl rfl) σ) (pa_cons (uv 0 (hv := vi_law_odd_0)) (pa_cons (pe_op uo_add (pe_callB uk_len rfl T.z_len boot_len (pa_cons (uv 4 (hv := vi_law_odd_4)) pa_nil)) pe_int) pa_nil))))
      (pss_one (ps_ret (pe_tup (pa_cons (uv 3 (hv := vi_law_odd_3)) (pa_cons (pe_callD (ok_law_exchanged T) (hr.mono (by decide)) rfl T.m_law_exchanged T.F_law_exchanged.kp T.b_law_exchanged .nil (fun σ => passAt (takes_of rfl rfl rfl rfl) σ) (pa_cons (uv 4 (hv := vi_law_odd_4)) (pa_cons (uv 8 (hv := vi_law_odd_8)) (pa_cons (pe_lst (pa_cons (pe_ix ux_seq (pe_lst (pa_cons (pe_op uo_sub pe_int pe_int) (pa_cons pe_int (pa_cons pe_int (pa_cons pe_int (pa_cons pe_int pa_nil)))))) (pe_callD (ok_law_take T) (hr.mono (by decide)) rfl T.m_law_take T.F_law_take.kp T.b_law_take .nil (fun σ => passAt (takes_of rfl rfl rfl rfl) σ) (pa_cons (uv 0 (hv := vi_law_odd_0)) (pa_cons pe_int pa_nil))) (fun _ _ => rfl)) pa_nil)) pa_nil)))) (pa_cons (uv 5 (hv := vi_law_odd_5)) pa_nil))))))) pss_nil)
      (pss_cons (ps_if (PW.pt (pw_or (pt_cmpR op_eq (uv 6 (hv := vi_law_odd_6)) pe_int (nomark _)) (pw_or1 (pt_cmpR op_ne (pe_callB uk_len rfl T.z_len boot_len (pa_cons (uv 5 (hv := vi_law_odd_5)) pa_nil)) (pe_callB uk_len rfl T.z_len boot_len (pa_cons (uv 7 (hv := vi_law_odd_7)) pa_nil)) (nomark _))))) (pss_cons (ps_set (i := 9) sc_law_odd.nd rfl lo_law_odd_9 (pe_callD (ok_law_take T) (hr.mono (by decide)) rfl T.m_law_take T.F_law_take.kp T.b_law_take .nil (fun σ => passAt (takes_of rfl rfl rfl rfl) σ) (pa_cons (uv 0 (hv := vi_law_odd_0)) (pa_cons (pe_op uo_add (pe_callB uk_len rfl T.z_len boot_len (pa_cons (uv 5 (hv := vi_law_odd_5)) pa_nil)) pe_int) pa_nil))))
      (pss_cons (ps_set (i := 10) sc_law_odd.nd rfl lo_law_odd_10 (pe_op op_repTn (pe_orT (pe_slice us_sl (uv 5 (hv := vi_law_odd_5)) (po_some (uv 9 (hv := vi_law_odd_9))) (po_some (pe_op uo_add (uv 9 (hv := vi_law_odd_9)) pe_int))) (pe_one (pe_slice us_sl (uv 5 (hv := vi_law_odd_5)) (po_some (pe_un uu_neg pe_int)) po_none))) (pe_op uo_mul pe_int (pe_callD (ok_law_take T) (hr.mono (by decide)) rfl T.m_law_take T.F_law_take.kp T.b_law_take .nil (fun σ => passAt (takes_of rfl rfl rfl rfl) σ) (pa_cons (uv 0 (hv := vi_law_odd_0)) (pa_cons pe_int pa_nil))))))
      (pss_one (ps_ret (pe_tup (pa_cons (uv 3 (hv := vi_law_odd_3)) (pa_cons (pe_slice us_sl (uv 4 (hv := vi_law_odd_4)) po_none (po_some (pe_op uo_sub (pe_callB uk_len rfl T.z_len boot_len (pa_cons (uv 4 (hv := vi_law_odd_4)) pa_nil)) (pe_callD (ok_law_take T) (hr.mono (by decide)) rfl T.m_law_take T.F_law_take.kp T.b_law_take .nil (fun σ => passAt (takes_of rfl rfl rfl rfl) σ) (pa_cons (uv 0 (hv := vi_law_odd_0)) (pa_cons pe_int pa_nil)))))) (pa_cons (pe_op uo_add (pe_op uo_add (pe_slice us_sl (uv 5 (hv := vi_law_odd_5)) po_none (po_some (uv 9 (hv := vi_law_odd_9)))) (uv 10 (hv := vi_law_odd_10))) (pe_slice us_sl (uv 5 (hv := vi_law_odd_5)) (po_some (pe_op uo_add (uv 9 (hv := vi_law_odd_9)) pe_int)) po_none)) pa_nil)))))))) pss_nil)
      (pss_cons (ps_set (i := 9) sc_law_odd.nd rfl lo_law_odd_9 (pe_callD (ok_law_take T) (hr.mono (by decide)) rfl T.m_law_take T.F_law_take.kp T.b_law_take .nil (fun σ => passAt (takes_of rfl rfl rfl rfl) σ) (pa_cons (uv 0 (hv := vi_law_odd_0)) (pa_cons (pe_callB uk_len rfl T.z_len boot_len (pa_cons (uv 5 (hv := vi_law_odd_5)) pa_nil)) pa_nil))))
      (pss_cons (ps_setLc (i := 11) (own := [("_law_part", 12)]) (g := gName 12) rfl sc_law_odd.nd rfl rfl (sw_true rfl rfl rfl (by decide +kernel)) (ui_seq (pe_ix ux_seq (pe_ix ux_seq (uv 7 (hv := vi_law_odd_7)) (uv 9 (hv := vi_law_odd_9)) (fun _ _ => rfl)) pe_int (fun _ _ => rfl))) (blkOk_by (own := [("_law_part", 12)]) (N := N_law_odd) (sc := defScope s_law_odd) (by decide +kernel)) (fun _ _ _ _ _ => (pg_name (i := 12) sc_law_odd.nd rfl (by first | exact Or.inl rfl | exact Or.inr rfl))) (fun _ _ _ _ _ => pts_nil) (fun _ _ _ _ _ => (uv 12)))
      (pss_one (ps_ret (pe_tup (pa_cons (uv 3 (hv := vi_law_odd_3)) (pa_cons (uv 4 (hv := vi_law_odd_4)) (pa_cons (pe_callD (ok_law_exchanged T) (hr.mono (by decide)) rfl T.m_law_exchanged T.F_law_exchanged.kp T.b_law_exchanged .nil (fun σ => passAt (takes_of rfl rfl rfl rfl) σ) (pa_cons (uv 5 (hv := vi_law_odd_5)) (pa_cons (uv 9 (hv := vi_law_odd_9)) (pa_cons (pe_lst (pa_cons (pe_callD (ok_law_odd_rows T) (hr.mono (by decide)) rfl T.m_law_odd_rows T.F_law_odd_rows.kp T.b_law_odd_rows .nil (fun σ => passAt (takes_of rfl rfl rfl rfl) σ) (pa_cons (uv 0 (hv := vi_law_odd_0)) (pa_cons (uv 2 (hv := vi_law_odd_2)) (pa_cons (uv 9 (hv := vi_law_odd_9)) (pa_cons (uv 11 (hv := vi_law_odd_11)) pa_nil))))) pa_nil)) pa_nil)))) pa_nil))))))))))))), ?_⟩
  obtain ⟨a, c, b, xs, rfl, ha, hc, hbb, rx⟩ := pr_at rv
  have lxs : xs.length = pr.2.2.length := by rw [rx.len, List.length_map]
  have lc0 : (pr.2.1.map V.int).length = pr.2.1.length := List.length_map _
  have rc := np.counts
  have rr := np.rules
  have k0 := Kp.refl hb
  walk_at "go"
  refine g_tup3 ha ?_
  walk_at "go"
  refine ⟨p, 8, rfl, hb, by decide, by decide, fun form H1 f0 f1 b1 hb1 => ?_⟩
  have k1 := k0.but b1 hb1
  walk_at "go"
  refine ⟨wd, _, rfl, rw1.tk k1.2.2 (wood_hard wd), ok, fun ml H2 us e2 hml hDu => ?_⟩
  have k2 := k1.ex e2
  have lus := hDu.1
  have many := ok.many
  walk_at "go"
  refine i_eqI (fun c1 => ?_) fun c1 => ?_
  · walk_at "go"
    refine ⟨p, pr.1, n, rfl, k2.2.1, np.lets, hn, fun s H3 ls' b3 hb3 => ?_⟩
    have k3 := k2.but b3 hb3
    walk_at "go"
    refine g_new fun t ht => ?_
    have k4 := k3.new (o := .tup [.str s, .ref c, .ref b]) ht
    exact q _ (s, pr.2.1, pr.2.2) _ ⟨ls', by show pr.2.1.length ≤ _; omega, by show pr.2.2.length ≤ _; omega, fun x hx => (np.rule x hx).le (Nat.le_succ n)⟩ (Rep.pr upd_same (k4.2.2 _ _ hc) (k4.2.2 _ _ hbb) (rx.tkm k4.2.2 rp_hard)) k4
  have hc2 := k2.2.2 _ _ hc
  have hbb2 := k2.2.2 _ _ hbb
  walk_at "go"
  refine i_eqI (fun c2 => ?_) fun c2 => ?_
  · walk_at "go"
    refine ⟨p, _, rfl, k2.2.1, by omega, Nat.lt_of_lt_of_le (Bits.log (n := 30) (show (((pr.2.1.map V.int).length : Int) + 1).natAbs < 2 ^ 30 by omega)) (by decide), fun k H3 kk0 kk1 b3 hb3 => ?_⟩
    have k3 := k2.but b3 hb3
    walk_at "go"
    refine g_new fun l1 hl1 => ?_
    have k4 := k3.new (o := .lst [.int (0 - 1), .int 3, .int 0, .int 2, .int 9]) hl1
    have h4 := @upd_same H3 l1 (.lst [.int (0 - 1), .int 3, .int 0, .int 2, .int 9])
    have n1 := hb3.ne hl1
    revert k4 h4
    generalize upd H3 l1 (.lst [.int (0 - 1), .int 3, .int 0, .int 2, .int 9]) = H4
    intro k4 h4
    walk_at "go"
    refine ⟨p, 5, rfl, k4.2.1, by decide, by decide, fun u H5 u0 u1 b5 hb5 => ?_⟩
    have k5 := k4.but b5 hb5
    have em : ∃ m : Int, atI [V.int (0 - 1), .int 3, .int 0, .int 2, .int 9] u = some (.int m) := by
      rcases (show u = 0 ∨ u = 1 ∨ u = 2 ∨ u = 3 ∨ u = 4 by omega) with rfl | rfl | rfl | rfl | rfl <;> exact ⟨_, rfl⟩
    obtain ⟨m, em⟩ := em
    walk_at "go"
    refine g_ixL (b5 _ _ n1 h4) em ?_
    walk_at "go"
    refine g_new fun l2 hl2 => ?_
    have k6 := k5.new (o := .lst [.int m]) hl2
    refine ⟨c, l2, _, [.int m], k, rfl, k6.2.2 _ _ hc, upd_same, kk0, by omega, by omega, (by show 1 ≤ 1000; decide), fun pA HA eA hA => ?_⟩
    have kA := k6.ex eA
    walk_at "go"
    refine g_new fun t ht => ?_
    have kF := kA.new (o := .tup [.str pr.1, .ref pA, .ref b]) ht
    obtain ⟨ns, ens, lns⟩ := map_of (f := V.int) (ys := (pr.2.1.map V.int).take k.toNat ++ [.int m] ++ (pr.2.1.map V.int).drop (k.toNat + 1)) fun y hy => by
      rcases List.mem_append.1 hy with hy | hy
      · rcases List.mem_append.1 hy with hy | hy
        · obtain ⟨x, _, e⟩ := List.mem_map.1 (List.mem_of_mem_take hy)
          exact ⟨x, e.symm⟩
        · exact ⟨m, List.mem_singleton.1 hy⟩
      · obtain ⟨x, _, e⟩ := List.mem_map.1 (List.mem_of_mem_drop hy)
        exact ⟨x, e.symm⟩
    have ly : ns.length ≤ pr.2.1.length + 1 := by
      rw [lns, List.length_append, List.length_append, List.length_take, List.length_drop, lc0]
      show _ + 1 + _ ≤ _
      omega
    rw [ens] at hA
    exact q _ (pr.1, ns, pr.2.2) _ ⟨⟨by have := np.lets.most; show pr.1.length ≤ _; omega, np.lets.sign, (fun z => by
      have n0 : n = 0 := by omega
      exact np.lets.few (by omega)), fun z => absurd z (Nat.succ_ne_zero n)⟩, by show ns.length ≤ _; omega, by show pr.2.2.length ≤ _; omega, fun x hx => (np.rule x hx).le (Nat.le_succ n)⟩ (Rep.pr upd_same (Ex.new ht _ _ hA) (kF.2.2 _ _ hbb) (rx.tkm kF.2.2 rp_hard)) kF
  have lets' : LtN (n + 1) pr.1 := ⟨by have := np.lets.most; omega, np.lets.sign, (fun z => np.lets.few (by omega)), fun z => absurd z (Nat.succ_ne_zero n)⟩
  walk_at "go"
  refine i_eqI (fun c3 => ?_) fun c3 => ?_
  rotate_left
  walk_at "go"
  refine i_neI (fun c4 => ?_) fun c4 => ?_
  rotate_left
  · walk_at "go"
    refine ⟨p, _, rfl, k2.2.1, by omega, Nat.lt_of_lt_of_le (Bits.log (n := 30) (show ((xs.length : Nat) : Int).natAbs < 2 ^ 30 by omega)) (by decide), fun m H3 m0 m1 b3 hb3 => ?_⟩
    have k3 := k2.but b3 hb3
    have hml3 : ∃ us', H3 ml = some (.lst us') ∧ Dues wd H3 (tabFrom 0 wd) us' := ⟨us, b3 _ _ (k2.2.1.neL hml fun x hx i e => by
      obtain ⟨j, hj⟩ := List.mem_iff_getElem?.1 hx
      obtain ⟨_, _, p', _, e', _⟩ := hDu.2 j x hj
      rw [e'] at e
      cases e) hml, hDu.tk (k2.2.1.tk b3)⟩
    obtain ⟨us', hml3, hDu3⟩ := hml3
    have lus' := hDu3.1
    obtain ⟨x1, ex1, hx1⟩ := atI_ex (l := us') m0 (by omega)
    obtain ⟨e, et, p1, t1, rfl, hp1, ht1⟩ := hDu3.2 _ _ hx1
    rw [dueOf_vals] at ht1
    obtain ⟨ek, dl, d2, din⟩ := dueOf_in ok (List.mem_of_getElem? et)
    have ldo : ((dueOf wd e).map V.int).length = (dueOf wd e).length := List.length_map _
    walk_at "go"
    refine g_seqTs ?_
    walk_at "go"
    refine g_ixL hml3 ex1 ?_
    walk_at "go"
    refine ⟨_, rfl, ⟨_, sqT ht1⟩, fun D hD => ?_⟩
    refine lc_mapE walk_tup (fun u _ v => True) (by omega) hD (fun _ _ _ _ _ r => r) (fun H8 e => sqT (e _ _ ht1)) ?_ ?_
    · rintro u y H8 H9 P N hu e8 ⟨rfl, hy⟩ k
      walk_at "go"
      refine ⟨rfl, ?_⟩
      walk_at "go"
      exact k _ _ (Ex.refl _) trivial
    intro H4 oacc e4 hown hlo hro
    rw [ldo] at hlo
    have k4 := k3.ex e4
    have ha4 := k4.2.2 _ _ ha
    walk_at "go"
    refine ⟨p, D, pr, _, m, oacc, n, rfl, k4.2.1, rv.tk k4.2.2 (pr_hard pr), np, hn, m0, by omega, hown, by omega, fun v' x' H5 nx' rx' k45 => ?_⟩
    have k5 := k4.trans k45
    walk_at "go"
    refine g_new fun l2 hl2 => ?_
    have k6 := k5.new (o := .lst [v']) hl2
    have e6 := Ex.new (o := .lst [v']) hl2
    refine ⟨b, l2, xs, [v'], m, rfl, k6.2.2 _ _ hbb, upd_same, m0, by omega, by omega, (by show 1 ≤ 1000; decide), fun pA HA eA hA => ?_⟩
    have kA := k6.ex eA
    walk_at "go"
    refine g_new fun t ht => ?_
    have kF := kA.new (o := .tup [.str pr.1, .ref c, .ref pA]) ht
    have eF := Ex.new (o := .tup [.str pr.1, .ref c, .ref pA]) ht
    have rA := reps_exch (rx.tkm kF.2.2 rp_hard) (bs := [x']) (ys := [v']) (by
      have z := rx'.ex (e6.trans (eA.trans eF))
      simp only [List.map, Reps]
      exact ⟨_, _, rfl, z, rfl⟩) m.toNat
    refine q _ (pr.1, pr.2.1, pr.2.2.take m.toNat ++ [x'] ++ pr.2.2.drop (m.toNat + 1)) _ ⟨lets', by show pr.2.1.length ≤ _; omega, ?_, fun x hx => ?_⟩ (Rep.pr upd_same (kF.2.2 _ _ hc) (eF _ _ hA) rA) kF
    · show (pr.2.2.take m.toNat ++ [x'] ++ pr.2.2.drop (m.toNat + 1)).length ≤ _
      rw [List.length_append, List.length_append, List.length_take, List.length_drop]
      show _ + 1 + _ ≤ _
      omega
    · rcases List.mem_append.1 hx with hx | hx
      · rcases List.mem_append.1 hx with hx | hx
        · exact (np.rule x (List.mem_of_mem_take hx)).le (Nat.le_succ n)
        · rw [List.mem_singleton.1 hx]
          exact nx'
      · exact (np.rule x (List.mem_of_mem_drop hx)).le (Nat.le_succ n)
  all_goals
    walk_at "go"
    refine ⟨p, _, rfl, k2.2.1, by omega, Nat.lt_of_lt_of_le (Bits.log (n := 30) (show ((xs.length : Int) + 1).natAbs < 2 ^ 30 by omega)) (by decide), fun m H3 m0 m1 b3 hb3 => ?_⟩
    have k3 := k2.but b3 hb3
    have hbb3 := k3.2.2 _ _ hbb
    walk_at "go"
    refine g_orT ?_
    walk_at "go"
    refine g_slT hbb3 fun p4 H4 e4 h4 => ?_
    refine g_orSl (fun t H5 => Ex H4 H5 ∧ ∃ zs, H5 t = some (.tup zs) ∧ zs.length ≤ 1 ∧ ∀ z ∈ zs, z ∈ xs) h4 ?_ ⟨Ex.refl _, _, h4, by rw [cutV_one m0]; omega, fun z hz => cutV_mem hz⟩ fun key => ?_
    rotate_left
    · have hbb4 := e4 _ _ hbb3
      walk_at "go"
      refine g_slT hbb4 fun p5 H5 e5 h5 => ?_
      exact key _ _ ⟨e5, _, h5, cutV_neg1 xs, fun z hz => cutV_mem hz⟩
    rintro p5 H5 ⟨e5, zs, h5, lz, mz⟩
    have k5 := k3.ex (e4.trans e5)
    walk_at "go"
    refine ⟨p, 2, rfl, k5.2.1, by decide, by decide, fun u H6 u0 u1 b6 hb6 => ?_⟩
    have k6 := k5.but b6 hb6
    have cm : CMm 2 u := (show Bits 2 2 from by decide).cm (show Bits 10 u from by unfold Bits; omega)
    have h56 := k5.2.1.tk b6 _ _ h5
    walk_at "go"
    refine g_repTn h56 (by omega) (by omega) (by omega) fun p7 H7 e7 h7 => ?_
    have l7 : ((List.replicate (2 * u).toNat zs).flatten).length ≤ 2 := by
      rw [show ((List.replicate (2 * u).toNat zs).flatten).length = (2 * u).toNat * zs.length from by simp]
      have : (2 * u).toNat * zs.length ≤ 2 * 1 := Nat.mul_le_mul (by omega) lz
      omega
    have m7 : ∀ y ∈ (List.replicate (2 * u).toNat zs).flatten, y ∈ xs := fun y hy => by
      obtain ⟨z, hz, hy⟩ := List.mem_flatten.1 hy
      rw [(List.mem_replicate.1 hz).2] at hy
      exact mz y hy
    revert h7 m7 l7
    generalize (List.replicate (2 * u).toNat zs).flatten = ws
    intro h7 l7 m7
    have k7 := k6.ex e7
    have hc7 := k7.2.2 _ _ hc
    walk_at "go"
    refine ⟨p, 2, rfl, k7.2.1, by decide, by decide, fun u2 H8 w0 w1 b8 hb8 => ?_⟩
    have k8 := k7.but b8 hb8
    have h78 := k7.2.1.tk b8 _ _ h7
    walk_at "go"
    refine g_slT (k8.2.2 _ _ hc) fun p9 H9 e9 h9 => ?_
    have k9 := k8.ex e9
    have hbb9 := k9.2.2 _ _ hbb
    walk_at "go"
    refine g_slT hbb9 fun p10 H10 e10 h10 => ?_
    have lA := (cutV_len (xs := xs) m0).1
    have lB := (cutV_len (xs := xs) (i := m + 1) (by omega)).2
    refine g_catT h10 ((e9.trans e10) _ _ h78) (by omega) fun p11 H11 e11 h11 => ?_
    have k11 := k9.ex (e10.trans e11)
    have hbb11 := k11.2.2 _ _ hbb
    walk_at "go"
    refine g_slT hbb11 fun p12 H12 e12 h12 => ?_
    refine g_catT (e12 _ _ h11) h12 (by rw [List.length_append]; omega) fun p13 H13 e13 h13 => ?_
    have k13 := k11.ex (e12.trans e13)
    have h9' := (e10.trans (e11.trans (e12.trans e13))) _ _ h9
    walk_at "go"
    refine g_new fun t ht => ?_
    have eF := Ex.new (o := .tup [.str pr.1, .ref p9, .ref p13]) ht
    have kF := k13.new (o := .tup [.str pr.1, .ref p9, .ref p13]) ht
    obtain ⟨ns, ens, lns⟩ := map_of (f := V.int) (ys := cutV (pr.2.1.map V.int) none (some (((pr.2.1.map V.int).length : Nat) - u2))) fun y hy => by
      obtain ⟨x, _, e⟩ := List.mem_map.1 (cutV_mem hy)
      exact ⟨x, e.symm⟩
    have ly : ns.length ≤ pr.2.1.length := by
      rw [lns]
      exact Nat.le_trans (cutV_length _ _ _) (by omega)
    rw [ens] at h9'
    obtain ⟨bs, lbs, hbs, rbs⟩ := reps_sub (P := RpN (n + 1)) (ys := cutV xs none (some m) ++ ws ++ cutV xs (some (m + 1)) none) (rx.tkm kF.2.2 rp_hard) (fun x hx => (np.rule x hx).le (Nat.le_succ n)) (fun y hy => by
      rcases List.mem_append.1 hy with hy | hy
      · rcases List.mem_append.1 hy with hy | hy
        · exact cutV_mem hy
        · exact m7 y hy
      · exact cutV_mem hy)
    rw [List.length_append, List.length_append] at lbs
    exact q _ (pr.1, ns, bs) _ ⟨lets', by show ns.length ≤ _; omega, by show bs.length ≤ _; omega, hbs⟩ (Rep.pr upd_same (eF _ _ h9') (eF _ _ h13) rbs) kF
theorem vi_law_told_0 : Vis (defScope s_law_told) "_law_wood_here" := by first | exact Or.inl (by decide +kernel) | exact Or.inr (Or.inl (by decide +kernel)) | exact Or.inr (Or.inr (by decide +kernel))
theorem vi_law_told_1 : Vis (defScope s_law_told) "_law_printer_here" := by first | exact Or.inl (by decide +kernel) | exact Or.inr (Or.inl (by decide +kernel)) | exact Or.inr (Or.inr (by decide +kernel))
theorem vi_law_told_2 : Vis (defScope s_law_told) "_law_found" := by first | exact Or.inl (by decide +kernel) | exact Or.inr (Or.inl (by decide +kernel)) | exact Or.inr (Or.inr (by decide +kernel))
theorem vi_law_told_3 : Vis (defScope s_law_told) "e" := by first | exact Or.inl (by decide +kernel) | exact Or.inr (Or.inl (by decide +kernel)) | exact Or.inr (Or.inr (by decide +kernel))
theorem vi_law_told_4 : Vis (defScope s_law_told) "_law_others" := by first | exact Or.inl (by decide +kernel) | exact Or.inr (Or.inl (by decide +kernel)) | exact Or.inr (Or.inr (by decide +kernel))
theorem lo_law_told_2 : Loc (defScope s_law_told) "_law_found" := by first | exact Or.inl (by decide +kernel) | exact Or.inr (by decide +kernel)
theorem lo_law_told_4 : Loc (defScope s_law_told) "_law_others" := by first | exact Or.inl (by decide +kernel) | exact Or.inr (by decide +kernel)
theorem ok_law_told (T : Txt K mg) : FnOk P w K mg base (L2.CX P w) 5 T.a_law_told T.d_law_told ["_law_wood_here", "_law_printer_here"] spToldPr := by
  refine T.F_law_told.okX sc_law_told (fun vs H Q E h => ?_) (fun cdv A outer s H vs Q E hr h => ?_)
  · obtain ⟨_, _, _, _, rfl, _⟩ := h
    rfl
  obtain ⟨wd, r, wv, v, rfl, rw1, ok, rv, rb, q⟩ := h
  refine ⟨_, (pss_cons (ps_set (i := 2) sc_law_told.nd rfl lo_law_told_2 pe_non)
      (pss_cons (ps_try_as (i := 3) rfl rfl sc_law_told.nd rfl rfl ⟨rfl, by decide, .inl T.m_BoughError⟩ (takes_of rfl rfl rfl rfl) (fun W pn xe tk po => (pss_one (ps_set (i := 2) sc_law_told.nd rfl lo_law_told_2 (pe_tup (pa_cons pe_str (pa_cons (pe_cmpR op_is_bl (pe_callD (ok_look_printer T) (hr.mono (by decide)) rfl T.m_look_printer T.F_look_printer.kp T.b_look_printer .nil (fun σ => passAt tk σ) (pa_cons (uv 0 (hv := vi_law_told_0)) (pa_cons (uv 1 (hv := vi_law_told_1)) pa_nil))) pe_bl (nomark _)) pa_nil)))))) (fun a oe cls d pn hz hf => (pss_cons (ps_set (i := 2) sc_law_told.nd rfl lo_law_told_2 (pe_tup (pa_cons pe_str (pa_cons pe_str pa_nil))))
      (pss_cons (ps_set (i := 4) sc_law_told.nd rfl lo_law_told_4 (pe_callB (uk_isK K hz hf) rfl T.z_isinstance boot_isinstance (pa_cons (uv 3 (hv := vi_law_told_3)) (pa_cons (pe_tup (pa_cons (pe_glob (v := .ref T.a_NoFit) rfl T.m_NoFit rfl) (pa_cons (pe_glob (v := .ref T.a_NoReader) rfl T.m_NoReader rfl) (pa_cons (pe_glob (v := .ref T.a_NoRow) rfl T.m_NoRow rfl) (pa_cons (pe_glob (v := .ref T.a_NoText) rfl T.m_NoText rfl) (pa_cons (pe_glob (v := .ref T.a_NoTree) rfl T.m_NoTree rfl) (pa_cons (pe_glob (v := .ref T.a_NoTurner) rfl T.m_NoTurner rfl) (pa_cons (pe_glob (v := .ref T.a_NoWood) rfl T.m_NoWood rfl) (pa_cons (pe_glob (v := .ref T.a_NoWord) rfl T.m_NoWord rfl) (pa_cons (pe_glob (v := .ref T.a_TooLong) rfl T.m_TooLong rfl) (pa_cons (pe_glob (v := .ref T.a_TooWide) rfl T.m_TooWide rfl) pa_nil))))))))))) pa_nil))))
      (pss_one (ps_if (PW.pt (pw_and (utK K (pe_callB (uk_isK K hz hf) rfl T.z_isinstance boot_isinstance (pa_cons (uv 3 (hv := vi_law_told_3)) (pa_cons (pe_glob (v := .ref T.a_NoPrinter) rfl T.m_NoPrinter rfl) pa_nil)))) (pw_and (utK K (pe_callB (uk_isK K hz hf) rfl T.z_isinstance boot_isinstance (pa_cons (uv 3 (hv := vi_law_told_3)) (pa_cons (pe_bltn (v := .ty "ValueError") rfl T.z_ValueError (by decide +kernel) rfl) pa_nil)))) (pw_and1 (pt_not (utK K (uv 4 (hv := vi_law_told_4)))))))) (pss_one (ps_set (i := 2) sc_law_told.nd rfl lo_law_told_2 (pe_tup (pa_cons pe_str (pa_cons (pe_xf (xfC T.c_NoPrinter) T.n_NoPrinter_word hz hf (uv 3)) (pa_cons (pe_xf (xfC T.c_NoPrinter) T.n_NoPrinter_maker hz hf (uv 3)) pa_nil)))))) pss_nil))))))
      (pss_one (ps_ret (uv 2 (hv := vi_law_told_2)))))), ?_⟩
  walk_at "go"
  refine ⟨wd, r, wv, v, rfl, rw1, ok, rv, rb, fun hn H' e => ?_, fun r hr' dx H' e hx => ?_⟩
  · walk_at "go"
    refine ⟨true, true, rfl, rfl, ?_⟩
    rw [decide_eq_true rfl]
    walk_at "go"
    refine g_new fun p hp => ?_
    walk_at "go"
    exact q _ _ (e.trans (Ex.new hp)) (by rw [hn]; exact Rep.two upd_same (Rep.s _) (Rep.b _))
  · refine ⟨true, PySem.W.exm_ref T.c_BoughError.hs T.c_BoughError.hd T.t0_BoughError T.sWE, fun _ a ha => ?_, fun q => nomatch q⟩
    walk_at "go"
    refine g_new fun p0 hp0 => ?_
    have e0 := Ex.new (o := .tup [.str "other", .str ""]) hp0
    have hd : ∀ {H2 : Hp}, Ex H' H2 → DOk H2 (some dx) := fun e2 => .inr ⟨dx, _, rfl, e2 _ _ hx⟩
    walk_at "go"
    refine g_new fun tp htp => ?_
    have e2 := Ex.new (o := .tup [.ref T.a_NoFit, .ref T.a_NoReader, .ref T.a_NoRow, .ref T.a_NoText, .ref T.a_NoTree, .ref T.a_NoTurner, .ref T.a_NoWood, .ref T.a_NoWord, .ref T.a_TooLong, .ref T.a_TooWide]) htp
    have e02 := e0.trans e2
    walk_at "go"
    refine g_isXN (Cs := [T.a_NoFit, T.a_NoReader, T.a_NoRow, T.a_NoText, T.a_NoTree, T.a_NoTurner, T.a_NoWood, T.a_NoWord, T.a_TooLong, T.a_TooWide]) T.c_NoPrinter (hd e02) upd_same (fun F hF => ?_) ?_
    · simp only [List.mem_cons, List.not_mem_nil, or_false] at hF
      rcases hF with rfl | rfl | rfl | rfl | rfl | rfl | rfl | rfl | rfl | rfl
      · exact kit_own T.sW1 T.s0_NoPrinter T.i0_NoFit T.t0_NoFit
      · exact kit_own T.sW2 T.s0_NoPrinter T.i0_NoReader T.t0_NoReader
      · exact kit_own T.sW4 T.s0_NoPrinter T.i0_NoRow T.t0_NoRow
      · exact kit_own T.sW5 T.s0_NoPrinter T.i0_NoText T.t0_NoText
      · exact kit_own T.sW6 T.s0_NoPrinter T.i0_NoTree T.t0_NoTree
      · exact kit_own T.sW7 T.s0_NoPrinter T.i0_NoTurner T.t0_NoTurner
      · exact kit_own T.sW3 T.s0_NoPrinter T.i0_NoWood T.t0_NoWood
      · exact kit_own T.sW8 T.s0_NoPrinter T.i0_NoWord T.t0_NoWord
      · exact kit_own T.sW9 T.s0_NoPrinter T.i0_TooLong T.t0_TooLong
      · exact kit_own T.sWa T.s0_NoPrinter T.i0_TooWide T.t0_TooWide
    walk_at "go"
    refine g_isXC T.c_NoPrinter (hd e02) (kit_own T.s0_NoPrinter T.s0_NoPrinter T.i0_NoPrinter T.t0_NoPrinter) ?_
    walk_at "go"
    refine g_isXT T.c_NoPrinter (hd e02) (kit_sub T.sWV) ?_
    walk_at "go"
    refine ⟨rfl, rfl, _, _, _, rfl, e02 _ _ hx, rfl, ?_⟩
    walk_at "go"
    refine ⟨rfl, rfl, _, _, _, rfl, e02 _ _ hx, rfl, ?_⟩
    walk_at "go"
    refine g_new fun p hp => ?_
    walk_at "go"
    exact q _ _ ((e.trans e02).trans (Ex.new hp)) (by rw [hr']; exact Rep.tri upd_same (Rep.s _) (Rep.s _) (Rep.s _))
theorem vi_law_right_0 : Vis (defScope s_law_right) "_law_wood_here" := by first | exact Or.inl (by decide +kernel) | exact Or.inr (Or.inl (by decide +kernel)) | exact Or.inr (Or.inr (by decide +kernel))
theorem vi_law_right_1 : Vis (defScope s_law_right) "_law_printer_here" := by first | exact Or.inl (by decide +kernel) | exact Or.inr (Or.inl (by decide +kernel)) | exact Or.inr (Or.inr (by decide +kernel))
theorem vi_law_right_2 : Vis (defScope s_law_right) "_law_due_here" := by first | exact Or.inl (by decide +kernel) | exact Or.inr (Or.inl (by decide +kernel)) | exact Or.inr (Or.inr (by decide +kernel))
theorem lo_law_right_2 : Loc (defScope s_law_right) "_law_due_here" := by first | exact Or.inl (by decide +kernel) | exact Or.inr (by decide +kernel)
theorem ok_law_right (T : Txt K mg) : FnOk P w K mg base (L2.CX P w) 6 T.a_law_right T.d_law_right ["_law_wood_here", "_law_printer_here"] spRightPr := by
  refine T.F_law_right.okX sc_law_right (fun vs H Q E h => ?_) (fun cdv A outer s H vs Q E hr h => ?_)
  · obtain ⟨_, _, _, _, rfl, _⟩ := h
    rfl
  obtain ⟨wd, r, wv, v, rfl, rw1, ok, rv, rb, ls, q⟩ := h
  refine ⟨_, (pss_cons (ps_set (i := 2) sc_law_right.nd rfl lo_law_right_2 (pe_callD (ok_law_due T) (hr.mono (by decide)) rfl T.m_law_due T.F_law_due.kp T.b_law_due .nil (fun σ => passAt (takes_of rfl rfl rfl rfl) σ) (pa_cons (uv 0 (hv := vi_law_right_0)) (pa_cons (uv 1 (hv := vi_law_right_1)) pa_nil))))
      (pss_cons (ps_if (pt_cmpR uo_isN (uv 2 (hv := vi_law_right_2)) pe_non (nomark _)) (pss_one (ps_ret (pe_cmpR (op_eqD hr.units) (pe_callD (ok_law_told T) (hr.mono (by decide)) rfl T.m_law_told T.F_law_told.kp T.b_law_told .nil (fun σ => passAt (takes_of rfl rfl rfl rfl) σ) (pa_cons (uv 0 (hv := vi_law_right_0)) (pa_cons (uv 1 (hv := vi_law_right_1)) pa_nil))) (pe_tup (pa_cons pe_str (pa_cons pe_bl pa_nil))) (nomark _)))) pss_nil)
      (pss_one (ps_ret (pe_cmpR (op_eqD hr.units) (pe_callD (ok_law_told T) (hr.mono (by decide)) rfl T.m_law_told T.F_law_told.kp T.b_law_told .nil (fun σ => passAt (takes_of rfl rfl rfl rfl) σ) (pa_cons (uv 0 (hv := vi_law_right_0)) (pa_cons (uv 1 (hv := vi_law_right_1)) pa_nil))) (pe_op uo_add (pe_tup (pa_cons pe_str pa_nil)) (uv 2 (hv := vi_law_right_2))) (nomark _)))))), ?_⟩
  walk_at "go"
  refine ⟨wd, r, wv, v, rfl, rw1, ok, rv, rb, ls, fun d H1 e1 rd => ?_⟩
  walk_at "go"
  cases hdue : duePr wd r with
  | none =>
    rw [hdue] at rd
    simp only [dueD2, Rep] at rd
    subst rd
    walk_at "go"
    refine ⟨wd, r, _, _, rfl, rw1.ex e1, ok, rv.ex e1, rb, fun v2 H2 e2 r2 => ?_⟩
    have sg := heard_sig ok r
    have dp := heard_dep (duePr wd r)
    rw [hdue] at r2 sg dp
    walk_at "go"
    refine g_new fun p hp => ?_
    refine g_eqSame (r2.ex (Ex.new hp)) (Rep.two upd_same (Rep.s _) (Rep.b _)) sg dp ?_
    exact q _ ((e1.trans e2).trans (Ex.new hp))
  | some o =>
    rw [hdue] at rd
    obtain ⟨p, x, y, rfl, hp, rx, ry⟩ := Rep.twoI rd
    cases rx.strI
    cases ry.strI
    walk_at "go"
    refine ⟨wd, r, _, _, rfl, rw1.ex e1, ok, rv.ex e1, rb, fun v2 H2 e2 r2 => ?_⟩
    have sg := heard_sig ok r
    have dp := heard_dep (duePr wd r)
    rw [hdue] at r2 sg dp
    walk_at "go"
    refine g_new fun p1 hp1 => ?_
    have e3 := Ex.new (o := .tup [.str "refused"]) hp1
    refine g_catT upd_same (e3 _ _ (e2 _ _ hp)) (show 1 + 2 ≤ 1000000 by decide) fun p2 H4 e4 h4 => ?_
    refine g_eqSame (r2.ex (e3.trans e4)) (Rep.tri h4 (Rep.s _) (Rep.s _) (Rep.s _)) sg dp ?_
    exact q _ ((e1.trans e2).trans (e3.trans e4))
theorem vi_law_0 : Vis (defScope s_law) "_law_script" := by first | exact Or.inl (by decide +kernel) | exact Or.inr (Or.inl (by decide +kernel)) | exact Or.inr (Or.inr (by decide +kernel))
theorem vi_law_1 : Vis (defScope s_law) "_law_k" := by first | exact Or.inl (by decide +kernel) | exact Or.inr (Or.inl (by decide +kernel)) | exact Or.inr (Or.inr (by decide +kernel))
theorem vi_law_2 : Vis (defScope s_law) "_law_box_here" := by first | exact Or.inl (by decide +kernel) | exact Or.inr (Or.inl (by decide +kernel)) | exact Or.inr (Or.inr (by decide +kernel))
theorem vi_law_3 : Vis (defScope s_law) "_law_odd_here" := by first | exact Or.inl (by decide +kernel) | exact Or.inr (Or.inl (by decide +kernel)) | exact Or.inr (Or.inr (by decide +kernel))
theorem vi_law_4 : Vis (defScope s_law) "_law_wood_here" := by first | exact Or.inl (by decide +kernel) | exact Or.inr (Or.inl (by decide +kernel)) | exact Or.inr (Or.inr (by decide +kernel))
theorem vi_law_5 : Vis (defScope s_law) "_law_letters_here" := by first | exact Or.inl (by decide +kernel) | exact Or.inr (Or.inl (by decide +kernel)) | exact Or.inr (Or.inr (by decide +kernel))
theorem vi_law_6 : Vis (defScope s_law) "_law_good" := by first | exact Or.inl (by decide +kernel) | exact Or.inr (Or.inl (by decide +kernel)) | exact Or.inr (Or.inr (by decide +kernel))
theorem vi_law_7 : Vis (defScope s_law) "_law_bad" := by first | exact Or.inl (by decide +kernel) | exact Or.inr (Or.inl (by decide +kernel)) | exact Or.inr (Or.inr (by decide +kernel))
theorem vi_law_9 : Vis (defScope s_law) "_law_printer_here" := by first | exact Or.inl (by decide +kernel) | exact Or.inr (Or.inl (by decide +kernel)) | exact Or.inr (Or.inr (by decide +kernel))
theorem lo_law_1 : Loc (defScope s_law) "_law_k" := by first | exact Or.inl (by decide +kernel) | exact Or.inr (by decide +kernel)
theorem lo_law_2 : Loc (defScope s_law) "_law_box_here" := by first | exact Or.inl (by decide +kernel) | exact Or.inr (by decide +kernel)
theorem lo_law_3 : Loc (defScope s_law) "_law_odd_here" := by first | exact Or.inl (by decide +kernel) | exact Or.inr (by decide +kernel)
theorem lo_law_4 : Loc (defScope s_law) "_law_wood_here" := by first | exact Or.inl (by decide +kernel) | exact Or.inr (by decide +kernel)
theorem lo_law_5 : Loc (defScope s_law) "_law_letters_here" := by first | exact Or.inl (by decide +kernel) | exact Or.inr (by decide +kernel)
theorem lo_law_6 : Loc (defScope s_law) "_law_good" := by first | exact Or.inl (by decide +kernel) | exact Or.inr (by decide +kernel)
theorem lo_law_7 : Loc (defScope s_law) "_law_bad" := by first | exact Or.inl (by decide +kernel) | exact Or.inr (by decide +kernel)
theorem lo_law_8 : Loc (defScope s_law) "_law_turn" := by first | exact Or.inl (by decide +kernel) | exact Or.inr (by decide +kernel)
theorem lo_law_9 : Loc (defScope s_law) "_law_printer_here" := by first | exact Or.inl (by decide +kernel) | exact Or.inr (by decide +kernel)
theorem ok_law (T : Txt K mg) : FnOk P w K mg base (L2.CX P w) 7 T.a_law T.d_law ["_law_script"] (spLaw K) := by
  refine T.F_law.okX sc_law (fun vs H Q E h => ?_) (fun cdv A outer s H vs Q E hr h => ?_)
  · obtain ⟨_, _, rfl, _⟩ := h
    rfl
  obtain ⟨scr, ns, rfl, hS, hl, q⟩ := h
  refine ⟨_, (pss_cons (ps_for (passes_of rfl) rfl (pi_range1 rfl T.z_range (pa_cons (pe_callB (uk_max2 rfl) rfl T.z_max boot_max (pa_cons pe_int (pa_cons (pe_callB (uk_min2 rfl) rfl T.z_min boot_min (pa_cons pe_int (pa_cons (pe_callB uk_len rfl T.z_len boot_len (pa_cons (uv 0 (hv := vi_law_0)) pa_nil)) pa_nil))) pa_nil))) pa_nil)) (pg_name (i := 1) sc_law.nd rfl lo_law_1) (pss_cons (ps_set (i := 2) sc_law.nd rfl lo_law_2 (pe_callD (ok_law_box T) (hr.mono (by decide)) rfl T.m_law_box T.F_law_box.kp T.b_law_box .nil (fun σ => passAt (takes_of rfl rfl rfl rfl) σ) (pa_cons (uv 0 (hv := vi_law_0)) (pa_cons (uv 1 (hv := vi_law_1)) pa_nil))))
      (pss_cons (ps_set (i := 3) sc_law.nd rfl lo_law_3 (pe_callD (ok_law_take T) (hr.mono (by decide)) rfl T.m_law_take T.F_law_take.kp T.b_law_take .nil (fun σ => passAt (takes_of rfl rfl rfl rfl) σ) (pa_cons (uv 2 (hv := vi_law_2)) (pa_cons pe_int pa_nil))))
      (pss_cons (ps_set (i := 4) sc_law.nd rfl lo_law_4 (pe_callD (ok_law_wood T) (hr.mono (by decide)) rfl T.m_law_wood T.F_law_wood.kp T.b_law_wood .nil (fun σ => passAt (takes_of rfl rfl rfl rfl) σ) (pa_cons (uv 2 (hv := vi_law_2)) (pa_cons pe_int (pa_cons pe_int pa_nil)))))
      (pss_cons (ps_set (i := 5) sc_law.nd rfl lo_law_5 (pe_callD (ok_law_letters T) (hr.mono (by decide)) rfl T.m_law_letters T.F_law_letters.kp T.b_law_letters .nil (fun σ => passAt (takes_of rfl rfl rfl rfl) σ) (pa_cons (uv 2 (hv := vi_law_2)) (pa_cons (pe_op uo_add pe_int (pe_callD (ok_law_take T) (hr.mono (by decide)) rfl T.m_law_take T.F_law_take.kp T.b_law_take .nil (fun σ => passAt (takes_of rfl rfl rfl rfl) σ) (pa_cons (uv 2 (hv := vi_law_2)) (pa_cons pe_int pa_nil)))) pa_nil))))
      (pss_cons (ps_set (i := 6) sc_law.nd rfl lo_law_6 (pe_callD (ok_law_printer T) (hr.mono (by decide)) rfl T.m_law_printer T.F_law_printer.kp T.b_law_printer .nil (fun σ => passAt (takes_of rfl rfl rfl rfl) σ) (pa_cons (uv 2 (hv := vi_law_2)) (pa_cons (uv 4 (hv := vi_law_4)) (pa_cons (uv 5 (hv := vi_law_5)) (pa_cons (pe_callD (ok_law_text_counts T) (hr.mono (by decide)) rfl T.m_law_text_counts T.F_law_text_counts.kp T.b_law_text_counts .nil (fun σ => passAt (takes_of rfl rfl rfl rfl) σ) (pa_cons (uv 2 (hv := vi_law_2)) (pa_cons (uv 4 (hv := vi_law_4)) (pa_cons pe_int pa_nil)))) pa_nil))))))
      (pss_cons (ps_set (i := 7) sc_law.nd rfl lo_law_7 (uv 6 (hv := vi_law_6)))
      (pss_cons (ps_for (passes_of rfl) rfl (pi_range1 rfl T.z_range (pa_cons (uv 3 (hv := vi_law_3)) pa_nil)) (pg_name (i := 8) sc_law.nd rfl lo_law_8) (pss_one (ps_set (i := 7) sc_law.nd rfl lo_law_7 (pe_callD (ok_law_odd T) (hr.mono (by decide)) rfl T.m_law_odd T.F_law_odd.kp T.b_law_odd .nil (fun σ => passAt (takes_of rfl rfl rfl rfl) σ) (pa_cons (uv 2 (hv := vi_law_2)) (pa_cons (uv 4 (hv := vi_law_4)) (pa_cons (uv 7 (hv := vi_law_7)) pa_nil)))))))
      (pss_cons (ps_if (pt_cmpR uo_notN (pe_callD (ok_law_due T) (hr.mono (by decide)) rfl T.m_law_due T.F_law_due.kp T.b_law_due .nil (fun σ => passAt (takes_of rfl rfl rfl rfl) σ) (pa_cons (uv 4 (hv := vi_law_4)) (pa_cons (uv 6 (hv := vi_law_6)) pa_nil))) pe_non (nomark _)) (pss_one (ps_ret pe_bl)) pss_nil)
      (pss_one (ps_for (passes_of rfl) rfl (ui_seq (pe_tup (pa_cons (uv 7 (hv := vi_law_7)) (pa_cons (uv 6 (hv := vi_law_6)) (pa_cons (uv 7 (hv := vi_law_7)) pa_nil))))) (pg_name (i := 9) sc_law.nd rfl lo_law_9) (pss_one (ps_if (pt_not (ut (pe_callD (ok_law_right T) (hr.mono (by decide)) rfl T.m_law_right T.F_law_right.kp T.b_law_right .nil (fun σ => passAt (takes_of rfl rfl rfl rfl) σ) (pa_cons (uv 4 (hv := vi_law_4)) (pa_cons (uv 9 (hv := vi_law_9)) pa_nil))))) (pss_one (ps_ret pe_bl)) pss_nil)))))))))))))
      (pss_one (ps_ret pe_bl))), ?_⟩
  walk_at "go"
  have hln : (ns.map V.int).length ≤ 63 := by rw [List.length_map]; exact hl
  have hn : ∃ n : Nat, max 2 (min 6 (((ns.map V.int).length : Nat) : Int)) = (n : Int) ∧ 2 ≤ n ∧ n ≤ 6 := ⟨(max 2 (min 6 (((ns.map V.int).length : Nat) : Int))).toNat, by omega, by omega, by omega⟩
  obtain ⟨n, en, n2, n6⟩ := hn
  rw [en]
  refine ⟨_, rfl, by omega, by omega, ?_⟩
  rw [Int.toNat_natCast]
  refine for_it walk_range (fun i σ H1 => (∃ o1 o2 o3 o4 o5 o6 o7 o8 o9, σ = [some (.ref scr), o1, o2, o3, o4, o5, o6, o7, o8, o9]) ∧ Ex H H1) ⟨⟨_, _, _, _, _, _, _, _, _, rfl⟩, Ex.refl _⟩ (fun _ _ _ _ _ => trivial) ?_ ?_
  · rintro i x σ H1a H1 hi ⟨⟨o1, o2, o3, o4, o5, o6, o7, o8, o9, rfl⟩, e1⟩ ⟨rfl, rfl⟩
    walk_at "go"
    refine ⟨scr, ns, i, by show [V.ref scr, V.int (0 + (i : Int))] ++ [] = _; rw [Int.zero_add]; rfl, e1.seqL hS, hl, fun p H2 hp e2 hb2 => ?_⟩
    have k2 := Kp.refl hb2
    walk_at "go"
    refine ⟨p, 3, rfl, hb2, by decide, by decide, fun odd H3 od0 od1 b3 hb3 => ?_⟩
    have k3 := k2.but b3 hb3
    walk_at "go"
    refine ⟨p, 3, 8, rfl, hb3, by decide, by decide, fun wd v H4 ok pos rv b4 hb4 => ?_⟩
    have k4 := k3.but b4 hb4
    walk_at "go"
    refine ⟨p, 9, rfl, hb4, by decide, by decide, fun dl H8 dl0 dl1 b8 hb8 => ?_⟩
    have k8 := k4.but b8 hb8
    obtain ⟨k, rfl⟩ := Int.eq_ofNat_of_zero_le dl0
    walk_at "go"
    refine ⟨p, 1 + k, by show [V.ref p, V.int (1 + ((k : Nat) : Int))] ++ [] = _; simp, hb8, by omega, by omega, fun ls H9 lok b9 hb9 => ?_⟩
    have k9 := k8.but b9 hb9
    have t49 := (hb4.tk b8).trans (hb8.tk b9)
    walk_at "go"
    refine ⟨p, wd, v, 6, rfl, hb9, rv.tk t49 (wood_hard wd), ok, by decide, fun c cs H10 hc lcs hcs b10 hb10 => ?_⟩
    have k10 := k9.but b10 hb10
    have t410 := t49.trans (hb9.tk b10)
    walk_at "go"
    refine ⟨p, c, wd, v, ls, cs, rfl, hb10, rv.tk t410 (wood_hard wd), ok, lok, hc, lcs, hcs, fun pr pv H11 pok rp b11 hb11 => ?_⟩
    have k11 := k10.but b11 hb11
    have rv11 := rv.tk (t410.trans (hb10.tk b11)) (wood_hard wd)
    have kq := Kp.refl hb11
    walk_at "go"
    refine ⟨_, rfl, by omega, by omega, ?_⟩
    obtain ⟨od, rfl⟩ := Int.eq_ofNat_of_zero_le od0
    rw [Int.toNat_natCast]
    refine for_it walk_range (fun j σ H6 => (∃ bv o8 o9, σ = [some (.ref scr), some (.int (0 + (i : Nat))), some (.ref p), some (.int (od : Nat)), some v, some (.str ls), some pv, some bv, o8, o9] ∧ ∃ br, PrnN j br ∧ Rep H6 (prD br) bv) ∧ Kp p H11 H6) ⟨⟨_, _, _, rfl, pr, pok.n0 ok, rp⟩, kq⟩ (fun _ _ _ _ _ => trivial) ?_ ?_
    · rintro j x σ H6 H6' hj ⟨⟨bv, o8, o9, rfl, br, bn, rb⟩, k6⟩ ⟨rfl, rfl⟩
      walk_at "go"
      refine ⟨p, wd, v, bv, br, j, rfl, k6.2.1, rv11.tk k6.2.2 (wood_hard wd), ok, pos, rb, bn, by omega, fun v' r' H7 rn' rr' b7 => ?_⟩
      walk_at "go"
      exact ⟨⟨_, _, _, rfl, r', rn', rr'⟩, k6.trans b7⟩
    · rintro σ H6 ⟨⟨bv, o8, o9, rfl, br, bn, rb⟩, k6⟩
      have rw6 := rv11.tk k6.2.2 (wood_hard wd)
      have rg6 := rp.tk k6.2.2 (pr_hard pr)
      have bB := bn.bnd (by omega)
      have gN := pok.n0 ok
      have gB := gN.bnd (by decide)
      walk_at "go"
      refine ⟨wd, pr, v, pv, rfl, rw6, ok, rg6, gB, gN.lets.sign, fun dv H7 e7 rd => ?_⟩
      rw [duePr_none pok] at rd
      cases (show dv = .non from by simpa only [dueD2, Rep] using rd)
      walk_at "go"
      refine g_seqTs ?_
      walk_at "go"
      refine g_new fun t3 ht3 => ?_
      have eH : Ex H H7 := (Ex.of_but ((e1.trans e2).but p |>.trans (k11.1.trans k6.1)) (e1.free hp)).trans e7
      have e8 := Ex.new (o := .tup [bv, pv, bv]) ht3
      have h8 := @upd_same H7 t3 (.tup [bv, pv, bv])
      have e78 := e7.trans e8
      have eH8 := eH.trans e8
      revert e8 h8 e78 eH8
      generalize upd H7 t3 (.tup [bv, pv, bv]) = H8
      intro e8 h8 e78 eH8
      refine ⟨_, rfl, ⟨_, sqT h8⟩, ?_⟩
      refine for_it walk_tup (fun j σ H9 => (∃ o9, σ = [some (.ref scr), some (.int (0 + (i : Nat))), some (.ref p), some (.int (od : Nat)), some v, some (.str ls), some pv, some bv, o8, o9]) ∧ Ex H8 H9) ⟨⟨_, rfl⟩, Ex.refl _⟩ (fun j σ H9 _ h => sqT (h.2 _ _ h8)) ?_ ?_
      · rintro j x σ H9 H9' hj ⟨⟨o9, rfl⟩, e9⟩ ⟨rfl, hx⟩
        have hw : ∃ r0 m, PrnN m r0 ∧ m ≤ 2 ∧ Rep H8 (prD r0) x := by
          match j, hx with
          | 0, hx => cases hx; exact ⟨br, _, bn, by omega, rb.ex e78⟩
          | 1, hx => cases hx; exact ⟨pr, _, gN, by decide, rg6.ex e78⟩
          | 2, hx => cases hx; exact ⟨br, _, bn, by omega, rb.ex e78⟩
        obtain ⟨r0, m, b0, hm, rr0⟩ := hw
        walk_at "go"
        refine ⟨wd, r0, _, x, rfl, rw6.ex (e78.trans e9), ok, rr0.ex e9, b0.bnd hm, b0.lets.sign, fun H10 e10 => ?_⟩
        walk_at "go"
        exact ⟨⟨_, rfl⟩, e9.trans e10⟩
      · rintro σ H9 ⟨⟨o9, rfl⟩, e9⟩
        walk_at "go"
        exact ⟨⟨_, _, _, _, _, _, _, _, _, rfl⟩, eH8.trans e9⟩
  · rintro σ H1 ⟨⟨o1, o2, o3, o4, o5, o6, o7, o8, o9, rfl⟩, e1⟩
    walk_at "go"
    exact q _
end
theorem mk_txt {K : PySem.W.Frag} {h : Heap} {mg : Str → Option Value} (X : K.In h) (G : h.Ns mainGlobals mg)
    {C_BoughError C_NoText fI_NoText C_NoWood fI_NoWood C_NoTree fI_NoTree C_NoWord fI_NoWord C_TooLong fI_TooLong C_NoReader fI_NoReader C_NoFit fI_NoFit C_NoPrinter fI_NoPrinter C_NoTurner fI_NoTurner C_TooWide fI_TooWide C_NoRow fI_NoRow f_kinds_by_name f_makers_of f_maker_table f_kind_of f_parts_of f_need f_is_letters f_look_item f_look_printer f_law_box f_law_take f_law_names f_law_wood f_law_makers f_law_letters f_law_item_text f_law_text_counts f_law_rows_of_items f_law_boxes_left f_law_printer f_law_wrong_item f_law_due f_law_exchanged f_law_odd_letters f_law_odd_item f_law_odd_rows f_law_odd f_law_told f_law_right f_law : Addr}
    {ocI_NoText kVI_NoText dcI_NoText pmI_NoText cdI_NoText ctI_NoText ocI_NoWood kVI_NoWood dcI_NoWood pmI_NoWood cdI_NoWood ctI_NoWood ocI_NoTree kVI_NoTree dcI_NoTree pmI_NoTree cdI_NoTree ctI_NoTree ocI_NoWord kVI_NoWord dcI_NoWord pmI_NoWord cdI_NoWord ctI_NoWord ocI_TooLong kVI_TooLong dcI_TooLong pmI_TooLong cdI_TooLong ctI_TooLong ocI_NoReader kVI_NoReader dcI_NoReader pmI_NoReader cdI_NoReader ctI_NoReader ocI_NoFit kVI_NoFit dcI_NoFit pmI_NoFit cdI_NoFit ctI_NoFit ocI_NoPrinter kVI_NoPrinter dcI_NoPrinter pmI_NoPrinter cdI_NoPrinter ctI_NoPrinter ocI_NoTurner kVI_NoTurner dcI_NoTurner pmI_NoTurner cdI_NoTurner ctI_NoTurner ocI_TooWide kVI_TooWide dcI_TooWide pmI_TooWide cdI_TooWide ctI_TooWide ocI_NoRow kVI_NoRow dcI_NoRow pmI_NoRow cdI_NoRow ctI_NoRow oc_kinds_by_name kV_kinds_by_name dc_kinds_by_name pm_kinds_by_name cd_kinds_by_name ct_kinds_by_name oc_makers_of kV_makers_of dc_makers_of pm_makers_of cd_makers_of ct_makers_of oc_maker_table kV_maker_table dc_maker_table pm_maker_table cd_maker_table ct_maker_table oc_kind_of kV_kind_of dc_kind_of pm_kind_of cd_kind_of ct_kind_of oc_parts_of kV_parts_of dc_parts_of pm_parts_of cd_parts_of ct_parts_of oc_need kV_need dc_need pm_need cd_need ct_need oc_is_letters kV_is_letters dc_is_letters pm_is_letters cd_is_letters ct_is_letters oc_look_item kV_look_item dc_look_item pm_look_item cd_look_item ct_look_item oc_look_printer kV_look_printer dc_look_printer pm_look_printer cd_look_printer ct_look_printer oc_law_box kV_law_box dc_law_box pm_law_box cd_law_box ct_law_box oc_law_take kV_law_take dc_law_take pm_law_take cd_law_take ct_law_take oc_law_names kV_law_names dc_law_names pm_law_names cd_law_names ct_law_names oc_law_wood kV_law_wood dc_law_wood pm_law_wood cd_law_wood ct_law_wood oc_law_makers kV_law_makers dc_law_makers pm_law_makers cd_law_makers ct_law_makers oc_law_letters kV_law_letters dc_law_letters pm_law_letters cd_law_letters ct_law_letters oc_law_item_text kV_law_item_text dc_law_item_text pm_law_item_text cd_law_item_text ct_law_item_text oc_law_text_counts kV_law_text_counts dc_law_text_counts pm_law_text_counts cd_law_text_counts ct_law_text_counts oc_law_rows_of_items kV_law_rows_of_items dc_law_rows_of_items pm_law_rows_of_items cd_law_rows_of_items ct_law_rows_of_items oc_law_boxes_left kV_law_boxes_left dc_law_boxes_left pm_law_boxes_left cd_law_boxes_left ct_law_boxes_left oc_law_printer kV_law_printer dc_law_printer pm_law_printer cd_law_printer ct_law_printer oc_law_wrong_item kV_law_wrong_item dc_law_wrong_item pm_law_wrong_item cd_law_wrong_item ct_law_wrong_item oc_law_due kV_law_due dc_law_due pm_law_due cd_law_due ct_law_due oc_law_exchanged kV_law_exchanged dc_law_exchanged pm_law_exchanged cd_law_exchanged ct_law_exchanged oc_law_odd_letters kV_law_odd_letters dc_law_odd_letters pm_law_odd_letters cd_law_odd_letters ct_law_odd_letters oc_law_odd_item kV_law_odd_item dc_law_odd_item pm_law_odd_item cd_law_odd_item ct_law_odd_item oc_law_odd_rows kV_law_odd_rows dc_law_odd_rows pm_law_odd_rows cd_law_odd_rows ct_law_odd_rows oc_law_odd kV_law_odd dc_law_odd pm_law_odd cd_law_odd ct_law_odd oc_law_told kV_law_told dc_law_told pm_law_told cd_law_told ct_law_told oc_law_right kV_law_right dc_law_right pm_law_right cd_law_right ct_law_right oc_law kV_law dc_law pm_law cd_law ct_law : Value}
    {odI_NoText anI_NoText odI_NoWood anI_NoWood odI_NoTree anI_NoTree odI_NoWord anI_NoWord odI_TooLong anI_TooLong odI_NoReader anI_NoReader odI_NoFit anI_NoFit odI_NoPrinter anI_NoPrinter odI_NoTurner anI_NoTurner odI_TooWide anI_TooWide odI_NoRow anI_NoRow od_kinds_by_name an_kinds_by_name od_makers_of an_makers_of od_maker_table an_maker_table od_kind_of an_kind_of od_parts_of an_parts_of od_need an_need od_is_letters an_is_letters od_look_item an_look_item od_look_printer an_look_printer od_law_box an_law_box od_law_take an_law_take od_law_names an_law_names od_law_wood an_law_wood od_law_makers an_law_makers od_law_letters an_law_letters od_law_item_text an_law_item_text od_law_text_counts an_law_text_counts od_law_rows_of_items an_law_rows_of_items od_law_boxes_left an_law_boxes_left od_law_printer an_law_printer od_law_wrong_item an_law_wrong_item od_law_due an_law_due od_law_exchanged an_law_exchanged od_law_odd_letters an_law_odd_letters od_law_odd_item an_law_odd_item od_law_odd_rows an_law_odd_rows od_law_odd an_law_odd od_law_told an_law_told od_law_right an_law_right od_law an_law : Option Addr}
    {slI_NoText slI_NoWood slI_NoTree slI_NoWord slI_TooLong slI_NoReader slI_NoFit slI_NoPrinter slI_NoTurner slI_TooWide slI_NoRow sl_kinds_by_name sl_makers_of sl_maker_table sl_kind_of sl_parts_of sl_need sl_is_letters sl_look_item sl_look_printer sl_law_box sl_law_take sl_law_names sl_law_wood sl_law_makers sl_law_letters sl_law_item_text sl_law_text_counts sl_law_rows_of_items sl_law_boxes_left sl_law_printer sl_law_wrong_item sl_law_due sl_law_exchanged sl_law_odd_letters sl_law_odd_item sl_law_odd_rows sl_law_odd sl_law_told sl_law_right sl_law : Array (Option Value)}
    {tk_MOST_LETTERS tk_MOST_BOXES : Tok}
    {nm_BoughError qn_BoughError : Str} {Nn_BoughError : Addr} {bs_BoughError : List Value} {sn_BoughError : List Str} {sub_BoughError : List Value} {ab_BoughError : Bool} {col_BoughError : Option Bool} {dd_BoughError : Option Addr} {m0_BoughError m1_BoughError m2_BoughError m3_BoughError m5_BoughError : Option Value}
    {nm_NoText qn_NoText : Str} {Nn_NoText : Addr} {bs_NoText : List Value} {sn_NoText : List Str} {sub_NoText : List Value} {ab_NoText : Bool} {col_NoText : Option Bool} {dd_NoText : Option Addr} {m0_NoText m1_NoText m2_NoText m3_NoText m5_NoText : Option Value}
    {nm_NoWood qn_NoWood : Str} {Nn_NoWood : Addr} {bs_NoWood : List Value} {sn_NoWood : List Str} {sub_NoWood : List Value} {ab_NoWood : Bool} {col_NoWood : Option Bool} {dd_NoWood : Option Addr} {m0_NoWood m1_NoWood m2_NoWood m3_NoWood m5_NoWood : Option Value}
    {nm_NoTree qn_NoTree : Str} {Nn_NoTree : Addr} {bs_NoTree : List Value} {sn_NoTree : List Str} {sub_NoTree : List Value} {ab_NoTree : Bool} {col_NoTree : Option Bool} {dd_NoTree : Option Addr} {m0_NoTree m1_NoTree m2_NoTree m3_NoTree m5_NoTree : Option Value}
    {nm_NoWord qn_NoWord : Str} {Nn_NoWord : Addr} {bs_NoWord : List Value} {sn_NoWord : List Str} {sub_NoWord : List Value} {ab_NoWord : Bool} {col_NoWord : Option Bool} {dd_NoWord : Option Addr} {m0_NoWord m1_NoWord m2_NoWord m3_NoWord m5_NoWord : Option Value}
    {nm_TooLong qn_TooLong : Str} {Nn_TooLong : Addr} {bs_TooLong : List Value} {sn_TooLong : List Str} {sub_TooLong : List Value} {ab_TooLong : Bool} {col_TooLong : Option Bool} {dd_TooLong : Option Addr} {m0_TooLong m1_TooLong m2_TooLong m3_TooLong m5_TooLong : Option Value}
    {nm_NoReader qn_NoReader : Str} {Nn_NoReader : Addr} {bs_NoReader : List Value} {sn_NoReader : List Str} {sub_NoReader : List Value} {ab_NoReader : Bool} {col_NoReader : Option Bool} {dd_NoReader : Option Addr} {m0_NoReader m1_NoReader m2_NoReader m3_NoReader m5_NoReader : Option Value}
    {nm_NoFit qn_NoFit : Str} {Nn_NoFit : Addr} {bs_NoFit : List Value} {sn_NoFit : List Str} {sub_NoFit : List Value} {ab_NoFit : Bool} {col_NoFit : Option Bool} {dd_NoFit : Option Addr} {m0_NoFit m1_NoFit m2_NoFit m3_NoFit m5_NoFit : Option Value}
    {nm_NoPrinter qn_NoPrinter : Str} {Nn_NoPrinter : Addr} {bs_NoPrinter : List Value} {sn_NoPrinter : List Str} {sub_NoPrinter : List Value} {ab_NoPrinter : Bool} {col_NoPrinter : Option Bool} {dd_NoPrinter : Option Addr} {m0_NoPrinter m1_NoPrinter m2_NoPrinter m3_NoPrinter m5_NoPrinter : Option Value}
    {nm_NoTurner qn_NoTurner : Str} {Nn_NoTurner : Addr} {bs_NoTurner : List Value} {sn_NoTurner : List Str} {sub_NoTurner : List Value} {ab_NoTurner : Bool} {col_NoTurner : Option Bool} {dd_NoTurner : Option Addr} {m0_NoTurner m1_NoTurner m2_NoTurner m3_NoTurner m5_NoTurner : Option Value}
    {nm_TooWide qn_TooWide : Str} {Nn_TooWide : Addr} {bs_TooWide : List Value} {sn_TooWide : List Str} {sub_TooWide : List Value} {ab_TooWide : Bool} {col_TooWide : Option Bool} {dd_TooWide : Option Addr} {m0_TooWide m1_TooWide m2_TooWide m3_TooWide m5_TooWide : Option Value}
    {nm_NoRow qn_NoRow : Str} {Nn_NoRow : Addr} {bs_NoRow : List Value} {sn_NoRow : List Str} {sub_NoRow : List Value} {ab_NoRow : Bool} {col_NoRow : Option Bool} {dd_NoRow : Option Addr} {m0_NoRow m1_NoRow m2_NoRow m3_NoRow m5_NoRow : Option Value}
    (ac_BoughError : PySem.W.nsIn K mainGlobals "BoughError" = some (some (.ref C_BoughError)))
    (xl_BoughError : K.lookup C_BoughError = some (excClassObj nm_BoughError qn_BoughError C_BoughError Nn_BoughError bs_BoughError [.type "ValueError", .type "Exception", .type "BaseException", .type "object"] true sn_BoughError sub_BoughError ab_BoughError col_BoughError dd_BoughError m0_BoughError m1_BoughError m2_BoughError m3_BoughError m5_BoughError "ValueError.__new__"))
    (xe_BoughError : PySem.W.subIn K (.ref C_BoughError) (.type "BaseException") = some true)
    (xt_BoughError : PySem.W.typeIn K (.ref C_BoughError) = some (.type "type"))
    (xk_BoughError : PySem.W.keepIn K (.ref C_BoughError) = true)
    (xi_BoughError : PySem.W.isClsIn K C_BoughError = true)
    (xs_BoughError : PySem.W.subIn K (.ref C_BoughError) (.ref C_BoughError) = some true)
    (g1_BoughError : PySem.W.findIn K (.ref C_BoughError) "__getattribute__" = some (some (.builtin "BaseException.__getattribute__")))
    (g2_BoughError : PySem.W.findIn K (.ref C_BoughError) "__getattr__" = some none)
    (g3_BoughError : PySem.W.hasDictIn K C_BoughError = true)
    (g4_BoughError : PySem.W.findIn K (.ref C_BoughError) "__class__" = some (some (.builtin "object.__class__")))
    (g5_BoughError : PySem.W.specialIn K (.builtin "object.__class__") "__get__" = some (some (.builtin "getset_descriptor.__get__")))
    (g6_BoughError : PySem.W.takesIn K (.builtin "object.__class__") = some true)
    (g7_BoughError : PySem.W.mroIn K C_BoughError (.type "object") = some true)
    (h1_BoughError : PySem.W.specialIn K (.ref C_BoughError) "__getattribute__" = some (some (.builtin "type.__getattribute__")))
    (h2_BoughError : PySem.W.readsIn K C_BoughError (.type "type") = true)
    (h3_BoughError : PySem.W.findCls K (.ref C_BoughError) (.type "type") "__init__" = some (.val (.builtin "ValueError.__init__")))
    (ac_NoText : PySem.W.nsIn K mainGlobals "NoText" = some (some (.ref C_NoText)))
    (xl_NoText : K.lookup C_NoText = some (excClassObj nm_NoText qn_NoText C_NoText Nn_NoText bs_NoText [.ref C_BoughError, .type "ValueError", .type "Exception", .type "BaseException", .type "object"] true sn_NoText sub_NoText ab_NoText col_NoText dd_NoText m0_NoText m1_NoText m2_NoText m3_NoText m5_NoText "ValueError.__new__"))
    (xe_NoText : PySem.W.subIn K (.ref C_NoText) (.type "BaseException") = some true)
    (xt_NoText : PySem.W.typeIn K (.ref C_NoText) = some (.type "type"))
    (xk_NoText : PySem.W.keepIn K (.ref C_NoText) = true)
    (xi_NoText : PySem.W.isClsIn K C_NoText = true)
    (xs_NoText : PySem.W.subIn K (.ref C_NoText) (.ref C_NoText) = some true)
    (g1_NoText : PySem.W.findIn K (.ref C_NoText) "__getattribute__" = some (some (.builtin "BaseException.__getattribute__")))
    (g2_NoText : PySem.W.findIn K (.ref C_NoText) "__getattr__" = some none)
    (g3_NoText : PySem.W.hasDictIn K C_NoText = true)
    (g4_NoText : PySem.W.findIn K (.ref C_NoText) "__class__" = some (some (.builtin "object.__class__")))
    (g5_NoText : PySem.W.specialIn K (.builtin "object.__class__") "__get__" = some (some (.builtin "getset_descriptor.__get__")))
    (g6_NoText : PySem.W.takesIn K (.builtin "object.__class__") = some true)
    (g7_NoText : PySem.W.mroIn K C_NoText (.type "object") = some true)
    (iI_NoText : PySem.W.findIn K (.ref C_NoText) "__init__" = some (some (.ref fI_NoText)))
    (tI_NoText : PySem.W.typeIn K (.ref fI_NoText) = some (.type "function"))
    (lI_NoText : K.lookup fI_NoText = some ⟨ocI_NoText, odI_NoText, .func (PySem.W.fnOf "__init__" "NoText.__init__" (defArgs sI_NoText) (defBody sI_NoText) (defScope sI_NoText) .none kVI_NoText dcI_NoText pmI_NoText anI_NoText cdI_NoText ctI_NoText), slI_NoText⟩)
    (cI_NoText : PySem.W.codeIn K cdI_NoText "NoText.__init__" = true)
    (kI_NoText : PySem.W.keepIn K (.ref fI_NoText) = true)
    (sa_NoText : PySem.W.findIn K (.ref C_NoText) "__setattr__" = some (some (.builtin "object.__setattr__")))
    (nf_NoText_row : PySem.W.findIn K (.ref C_NoText) "row" = some none)
    (ac_NoWood : PySem.W.nsIn K mainGlobals "NoWood" = some (some (.ref C_NoWood)))
    (xl_NoWood : K.lookup C_NoWood = some (excClassObj nm_NoWood qn_NoWood C_NoWood Nn_NoWood bs_NoWood [.ref C_BoughError, .type "ValueError", .type "Exception", .type "BaseException", .type "object"] true sn_NoWood sub_NoWood ab_NoWood col_NoWood dd_NoWood m0_NoWood m1_NoWood m2_NoWood m3_NoWood m5_NoWood "ValueError.__new__"))
    (xe_NoWood : PySem.W.subIn K (.ref C_NoWood) (.type "BaseException") = some true)
    (xt_NoWood : PySem.W.typeIn K (.ref C_NoWood) = some (.type "type"))
    (xk_NoWood : PySem.W.keepIn K (.ref C_NoWood) = true)
    (xi_NoWood : PySem.W.isClsIn K C_NoWood = true)
    (xs_NoWood : PySem.W.subIn K (.ref C_NoWood) (.ref C_NoWood) = some true)
    (g1_NoWood : PySem.W.findIn K (.ref C_NoWood) "__getattribute__" = some (some (.builtin "BaseException.__getattribute__")))
    (g2_NoWood : PySem.W.findIn K (.ref C_NoWood) "__getattr__" = some none)
    (g3_NoWood : PySem.W.hasDictIn K C_NoWood = true)
    (g4_NoWood : PySem.W.findIn K (.ref C_NoWood) "__class__" = some (some (.builtin "object.__class__")))
    (g5_NoWood : PySem.W.specialIn K (.builtin "object.__class__") "__get__" = some (some (.builtin "getset_descriptor.__get__")))
    (g6_NoWood : PySem.W.takesIn K (.builtin "object.__class__") = some true)
    (g7_NoWood : PySem.W.mroIn K C_NoWood (.type "object") = some true)
    (iI_NoWood : PySem.W.findIn K (.ref C_NoWood) "__init__" = some (some (.ref fI_NoWood)))
    (tI_NoWood : PySem.W.typeIn K (.ref fI_NoWood) = some (.type "function"))
    (lI_NoWood : K.lookup fI_NoWood = some ⟨ocI_NoWood, odI_NoWood, .func (PySem.W.fnOf "__init__" "NoWood.__init__" (defArgs sI_NoWood) (defBody sI_NoWood) (defScope sI_NoWood) .none kVI_NoWood dcI_NoWood pmI_NoWood anI_NoWood cdI_NoWood ctI_NoWood), slI_NoWood⟩)
    (cI_NoWood : PySem.W.codeIn K cdI_NoWood "NoWood.__init__" = true)
    (kI_NoWood : PySem.W.keepIn K (.ref fI_NoWood) = true)
    (sa_NoWood : PySem.W.findIn K (.ref C_NoWood) "__setattr__" = some (some (.builtin "object.__setattr__")))
    (nf_NoWood_word : PySem.W.findIn K (.ref C_NoWood) "word" = some none)
    (nf_NoWood_name : PySem.W.findIn K (.ref C_NoWood) "name" = some none)
    (ac_NoTree : PySem.W.nsIn K mainGlobals "NoTree" = some (some (.ref C_NoTree)))
    (xl_NoTree : K.lookup C_NoTree = some (excClassObj nm_NoTree qn_NoTree C_NoTree Nn_NoTree bs_NoTree [.ref C_BoughError, .type "ValueError", .type "Exception", .type "BaseException", .type "object"] true sn_NoTree sub_NoTree ab_NoTree col_NoTree dd_NoTree m0_NoTree m1_NoTree m2_NoTree m3_NoTree m5_NoTree "ValueError.__new__"))
    (xe_NoTree : PySem.W.subIn K (.ref C_NoTree) (.type "BaseException") = some true)
    (xt_NoTree : PySem.W.typeIn K (.ref C_NoTree) = some (.type "type"))
    (xk_NoTree : PySem.W.keepIn K (.ref C_NoTree) = true)
    (xi_NoTree : PySem.W.isClsIn K C_NoTree = true)
    (xs_NoTree : PySem.W.subIn K (.ref C_NoTree) (.ref C_NoTree) = some true)
    (g1_NoTree : PySem.W.findIn K (.ref C_NoTree) "__getattribute__" = some (some (.builtin "BaseException.__getattribute__")))
    (g2_NoTree : PySem.W.findIn K (.ref C_NoTree) "__getattr__" = some none)
    (g3_NoTree : PySem.W.hasDictIn K C_NoTree = true)
    (g4_NoTree : PySem.W.findIn K (.ref C_NoTree) "__class__" = some (some (.builtin "object.__class__")))
    (g5_NoTree : PySem.W.specialIn K (.builtin "object.__class__") "__get__" = some (some (.builtin "getset_descriptor.__get__")))
    (g6_NoTree : PySem.W.takesIn K (.builtin "object.__class__") = some true)
    (g7_NoTree : PySem.W.mroIn K C_NoTree (.type "object") = some true)
    (iI_NoTree : PySem.W.findIn K (.ref C_NoTree) "__init__" = some (some (.ref fI_NoTree)))
    (tI_NoTree : PySem.W.typeIn K (.ref fI_NoTree) = some (.type "function"))
    (lI_NoTree : K.lookup fI_NoTree = some ⟨ocI_NoTree, odI_NoTree, .func (PySem.W.fnOf "__init__" "NoTree.__init__" (defArgs sI_NoTree) (defBody sI_NoTree) (defScope sI_NoTree) .none kVI_NoTree dcI_NoTree pmI_NoTree anI_NoTree cdI_NoTree ctI_NoTree), slI_NoTree⟩)
    (cI_NoTree : PySem.W.codeIn K cdI_NoTree "NoTree.__init__" = true)
    (kI_NoTree : PySem.W.keepIn K (.ref fI_NoTree) = true)
    (sa_NoTree : PySem.W.findIn K (.ref C_NoTree) "__setattr__" = some (some (.builtin "object.__setattr__")))
    (nf_NoTree_at : PySem.W.findIn K (.ref C_NoTree) "at" = some none)
    (ac_NoWord : PySem.W.nsIn K mainGlobals "NoWord" = some (some (.ref C_NoWord)))
    (xl_NoWord : K.lookup C_NoWord = some (excClassObj nm_NoWord qn_NoWord C_NoWord Nn_NoWord bs_NoWord [.ref C_BoughError, .type "ValueError", .type "Exception", .type "BaseException", .type "object"] true sn_NoWord sub_NoWord ab_NoWord col_NoWord dd_NoWord m0_NoWord m1_NoWord m2_NoWord m3_NoWord m5_NoWord "ValueError.__new__"))
    (xe_NoWord : PySem.W.subIn K (.ref C_NoWord) (.type "BaseException") = some true)
    (xt_NoWord : PySem.W.typeIn K (.ref C_NoWord) = some (.type "type"))
    (xk_NoWord : PySem.W.keepIn K (.ref C_NoWord) = true)
    (xi_NoWord : PySem.W.isClsIn K C_NoWord = true)
    (xs_NoWord : PySem.W.subIn K (.ref C_NoWord) (.ref C_NoWord) = some true)
    (g1_NoWord : PySem.W.findIn K (.ref C_NoWord) "__getattribute__" = some (some (.builtin "BaseException.__getattribute__")))
    (g2_NoWord : PySem.W.findIn K (.ref C_NoWord) "__getattr__" = some none)
    (g3_NoWord : PySem.W.hasDictIn K C_NoWord = true)
    (g4_NoWord : PySem.W.findIn K (.ref C_NoWord) "__class__" = some (some (.builtin "object.__class__")))
    (g5_NoWord : PySem.W.specialIn K (.builtin "object.__class__") "__get__" = some (some (.builtin "getset_descriptor.__get__")))
    (g6_NoWord : PySem.W.takesIn K (.builtin "object.__class__") = some true)
    (g7_NoWord : PySem.W.mroIn K C_NoWord (.type "object") = some true)
    (iI_NoWord : PySem.W.findIn K (.ref C_NoWord) "__init__" = some (some (.ref fI_NoWord)))
    (tI_NoWord : PySem.W.typeIn K (.ref fI_NoWord) = some (.type "function"))
    (lI_NoWord : K.lookup fI_NoWord = some ⟨ocI_NoWord, odI_NoWord, .func (PySem.W.fnOf "__init__" "NoWord.__init__" (defArgs sI_NoWord) (defBody sI_NoWord) (defScope sI_NoWord) .none kVI_NoWord dcI_NoWord pmI_NoWord anI_NoWord cdI_NoWord ctI_NoWord), slI_NoWord⟩)
    (cI_NoWord : PySem.W.codeIn K cdI_NoWord "NoWord.__init__" = true)
    (kI_NoWord : PySem.W.keepIn K (.ref fI_NoWord) = true)
    (sa_NoWord : PySem.W.findIn K (.ref C_NoWord) "__setattr__" = some (some (.builtin "object.__setattr__")))
    (nf_NoWord_at : PySem.W.findIn K (.ref C_NoWord) "at" = some none)
    (ac_TooLong : PySem.W.nsIn K mainGlobals "TooLong" = some (some (.ref C_TooLong)))
    (xl_TooLong : K.lookup C_TooLong = some (excClassObj nm_TooLong qn_TooLong C_TooLong Nn_TooLong bs_TooLong [.ref C_BoughError, .type "ValueError", .type "Exception", .type "BaseException", .type "object"] true sn_TooLong sub_TooLong ab_TooLong col_TooLong dd_TooLong m0_TooLong m1_TooLong m2_TooLong m3_TooLong m5_TooLong "ValueError.__new__"))
    (xe_TooLong : PySem.W.subIn K (.ref C_TooLong) (.type "BaseException") = some true)
    (xt_TooLong : PySem.W.typeIn K (.ref C_TooLong) = some (.type "type"))
    (xk_TooLong : PySem.W.keepIn K (.ref C_TooLong) = true)
    (xi_TooLong : PySem.W.isClsIn K C_TooLong = true)
    (xs_TooLong : PySem.W.subIn K (.ref C_TooLong) (.ref C_TooLong) = some true)
    (g1_TooLong : PySem.W.findIn K (.ref C_TooLong) "__getattribute__" = some (some (.builtin "BaseException.__getattribute__")))
    (g2_TooLong : PySem.W.findIn K (.ref C_TooLong) "__getattr__" = some none)
    (g3_TooLong : PySem.W.hasDictIn K C_TooLong = true)
    (g4_TooLong : PySem.W.findIn K (.ref C_TooLong) "__class__" = some (some (.builtin "object.__class__")))
    (g5_TooLong : PySem.W.specialIn K (.builtin "object.__class__") "__get__" = some (some (.builtin "getset_descriptor.__get__")))
    (g6_TooLong : PySem.W.takesIn K (.builtin "object.__class__") = some true)
    (g7_TooLong : PySem.W.mroIn K C_TooLong (.type "object") = some true)
    (iI_TooLong : PySem.W.findIn K (.ref C_TooLong) "__init__" = some (some (.ref fI_TooLong)))
    (tI_TooLong : PySem.W.typeIn K (.ref fI_TooLong) = some (.type "function"))
    (lI_TooLong : K.lookup fI_TooLong = some ⟨ocI_TooLong, odI_TooLong, .func (PySem.W.fnOf "__init__" "TooLong.__init__" (defArgs sI_TooLong) (defBody sI_TooLong) (defScope sI_TooLong) .none kVI_TooLong dcI_TooLong pmI_TooLong anI_TooLong cdI_TooLong ctI_TooLong), slI_TooLong⟩)
    (cI_TooLong : PySem.W.codeIn K cdI_TooLong "TooLong.__init__" = true)
    (kI_TooLong : PySem.W.keepIn K (.ref fI_TooLong) = true)
    (sa_TooLong : PySem.W.findIn K (.ref C_TooLong) "__setattr__" = some (some (.builtin "object.__setattr__")))
    (nf_TooLong_most : PySem.W.findIn K (.ref C_TooLong) "most" = some none)
    (ac_NoReader : PySem.W.nsIn K mainGlobals "NoReader" = some (some (.ref C_NoReader)))
    (xl_NoReader : K.lookup C_NoReader = some (excClassObj nm_NoReader qn_NoReader C_NoReader Nn_NoReader bs_NoReader [.ref C_BoughError, .type "ValueError", .type "Exception", .type "BaseException", .type "object"] true sn_NoReader sub_NoReader ab_NoReader col_NoReader dd_NoReader m0_NoReader m1_NoReader m2_NoReader m3_NoReader m5_NoReader "ValueError.__new__"))
    (xe_NoReader : PySem.W.subIn K (.ref C_NoReader) (.type "BaseException") = some true)
    (xt_NoReader : PySem.W.typeIn K (.ref C_NoReader) = some (.type "type"))
    (xk_NoReader : PySem.W.keepIn K (.ref C_NoReader) = true)
    (xi_NoReader : PySem.W.isClsIn K C_NoReader = true)
    (xs_NoReader : PySem.W.subIn K (.ref C_NoReader) (.ref C_NoReader) = some true)
    (g1_NoReader : PySem.W.findIn K (.ref C_NoReader) "__getattribute__" = some (some (.builtin "BaseException.__getattribute__")))
    (g2_NoReader : PySem.W.findIn K (.ref C_NoReader) "__getattr__" = some none)
    (g3_NoReader : PySem.W.hasDictIn K C_NoReader = true)
    (g4_NoReader : PySem.W.findIn K (.ref C_NoReader) "__class__" = some (some (.builtin "object.__class__")))
    (g5_NoReader : PySem.W.specialIn K (.builtin "object.__class__") "__get__" = some (some (.builtin "getset_descriptor.__get__")))
    (g6_NoReader : PySem.W.takesIn K (.builtin "object.__class__") = some true)
    (g7_NoReader : PySem.W.mroIn K C_NoReader (.type "object") = some true)
    (iI_NoReader : PySem.W.findIn K (.ref C_NoReader) "__init__" = some (some (.ref fI_NoReader)))
    (tI_NoReader : PySem.W.typeIn K (.ref fI_NoReader) = some (.type "function"))
    (lI_NoReader : K.lookup fI_NoReader = some ⟨ocI_NoReader, odI_NoReader, .func (PySem.W.fnOf "__init__" "NoReader.__init__" (defArgs sI_NoReader) (defBody sI_NoReader) (defScope sI_NoReader) .none kVI_NoReader dcI_NoReader pmI_NoReader anI_NoReader cdI_NoReader ctI_NoReader), slI_NoReader⟩)
    (cI_NoReader : PySem.W.codeIn K cdI_NoReader "NoReader.__init__" = true)
    (kI_NoReader : PySem.W.keepIn K (.ref fI_NoReader) = true)
    (sa_NoReader : PySem.W.findIn K (.ref C_NoReader) "__setattr__" = some (some (.builtin "object.__setattr__")))
    (nf_NoReader_word : PySem.W.findIn K (.ref C_NoReader) "word" = some none)
    (nf_NoReader_maker : PySem.W.findIn K (.ref C_NoReader) "maker" = some none)
    (ac_NoFit : PySem.W.nsIn K mainGlobals "NoFit" = some (some (.ref C_NoFit)))
    (xl_NoFit : K.lookup C_NoFit = some (excClassObj nm_NoFit qn_NoFit C_NoFit Nn_NoFit bs_NoFit [.ref C_BoughError, .type "ValueError", .type "Exception", .type "BaseException", .type "object"] true sn_NoFit sub_NoFit ab_NoFit col_NoFit dd_NoFit m0_NoFit m1_NoFit m2_NoFit m3_NoFit m5_NoFit "ValueError.__new__"))
    (xe_NoFit : PySem.W.subIn K (.ref C_NoFit) (.type "BaseException") = some true)
    (xt_NoFit : PySem.W.typeIn K (.ref C_NoFit) = some (.type "type"))
    (xk_NoFit : PySem.W.keepIn K (.ref C_NoFit) = true)
    (xi_NoFit : PySem.W.isClsIn K C_NoFit = true)
    (xs_NoFit : PySem.W.subIn K (.ref C_NoFit) (.ref C_NoFit) = some true)
    (g1_NoFit : PySem.W.findIn K (.ref C_NoFit) "__getattribute__" = some (some (.builtin "BaseException.__getattribute__")))
    (g2_NoFit : PySem.W.findIn K (.ref C_NoFit) "__getattr__" = some none)
    (g3_NoFit : PySem.W.hasDictIn K C_NoFit = true)
    (g4_NoFit : PySem.W.findIn K (.ref C_NoFit) "__class__" = some (some (.builtin "object.__class__")))
    (g5_NoFit : PySem.W.specialIn K (.builtin "object.__class__") "__get__" = some (some (.builtin "getset_descriptor.__get__")))
    (g6_NoFit : PySem.W.takesIn K (.builtin "object.__class__") = some true)
    (g7_NoFit : PySem.W.mroIn K C_NoFit (.type "object") = some true)
    (iI_NoFit : PySem.W.findIn K (.ref C_NoFit) "__init__" = some (some (.ref fI_NoFit)))
    (tI_NoFit : PySem.W.typeIn K (.ref fI_NoFit) = some (.type "function"))
    (lI_NoFit : K.lookup fI_NoFit = some ⟨ocI_NoFit, odI_NoFit, .func (PySem.W.fnOf "__init__" "NoFit.__init__" (defArgs sI_NoFit) (defBody sI_NoFit) (defScope sI_NoFit) .none kVI_NoFit dcI_NoFit pmI_NoFit anI_NoFit cdI_NoFit ctI_NoFit), slI_NoFit⟩)
    (cI_NoFit : PySem.W.codeIn K cdI_NoFit "NoFit.__init__" = true)
    (kI_NoFit : PySem.W.keepIn K (.ref fI_NoFit) = true)
    (sa_NoFit : PySem.W.findIn K (.ref C_NoFit) "__setattr__" = some (some (.builtin "object.__setattr__")))
    (nf_NoFit_at : PySem.W.findIn K (.ref C_NoFit) "at" = some none)
    (ac_NoPrinter : PySem.W.nsIn K mainGlobals "NoPrinter" = some (some (.ref C_NoPrinter)))
    (xl_NoPrinter : K.lookup C_NoPrinter = some (excClassObj nm_NoPrinter qn_NoPrinter C_NoPrinter Nn_NoPrinter bs_NoPrinter [.ref C_BoughError, .type "ValueError", .type "Exception", .type "BaseException", .type "object"] true sn_NoPrinter sub_NoPrinter ab_NoPrinter col_NoPrinter dd_NoPrinter m0_NoPrinter m1_NoPrinter m2_NoPrinter m3_NoPrinter m5_NoPrinter "ValueError.__new__"))
    (xe_NoPrinter : PySem.W.subIn K (.ref C_NoPrinter) (.type "BaseException") = some true)
    (xt_NoPrinter : PySem.W.typeIn K (.ref C_NoPrinter) = some (.type "type"))
    (xk_NoPrinter : PySem.W.keepIn K (.ref C_NoPrinter) = true)
    (xi_NoPrinter : PySem.W.isClsIn K C_NoPrinter = true)
    (xs_NoPrinter : PySem.W.subIn K (.ref C_NoPrinter) (.ref C_NoPrinter) = some true)
    (g1_NoPrinter : PySem.W.findIn K (.ref C_NoPrinter) "__getattribute__" = some (some (.builtin "BaseException.__getattribute__")))
    (g2_NoPrinter : PySem.W.findIn K (.ref C_NoPrinter) "__getattr__" = some none)
    (g3_NoPrinter : PySem.W.hasDictIn K C_NoPrinter = true)
    (g4_NoPrinter : PySem.W.findIn K (.ref C_NoPrinter) "__class__" = some (some (.builtin "object.__class__")))
    (g5_NoPrinter : PySem.W.specialIn K (.builtin "object.__class__") "__get__" = some (some (.builtin "getset_descriptor.__get__")))
    (g6_NoPrinter : PySem.W.takesIn K (.builtin "object.__class__") = some true)
    (g7_NoPrinter : PySem.W.mroIn K C_NoPrinter (.type "object") = some true)
    (iI_NoPrinter : PySem.W.findIn K (.ref C_NoPrinter) "__init__" = some (some (.ref fI_NoPrinter)))
    (tI_NoPrinter : PySem.W.typeIn K (.ref fI_NoPrinter) = some (.type "function"))
    (lI_NoPrinter : K.lookup fI_NoPrinter = some ⟨ocI_NoPrinter, odI_NoPrinter, .func (PySem.W.fnOf "__init__" "NoPrinter.__init__" (defArgs sI_NoPrinter) (defBody sI_NoPrinter) (defScope sI_NoPrinter) .none kVI_NoPrinter dcI_NoPrinter pmI_NoPrinter anI_NoPrinter cdI_NoPrinter ctI_NoPrinter), slI_NoPrinter⟩)
    (cI_NoPrinter : PySem.W.codeIn K cdI_NoPrinter "NoPrinter.__init__" = true)
    (kI_NoPrinter : PySem.W.keepIn K (.ref fI_NoPrinter) = true)
    (sa_NoPrinter : PySem.W.findIn K (.ref C_NoPrinter) "__setattr__" = some (some (.builtin "object.__setattr__")))
    (nf_NoPrinter_word : PySem.W.findIn K (.ref C_NoPrinter) "word" = some none)
    (nf_NoPrinter_maker : PySem.W.findIn K (.ref C_NoPrinter) "maker" = some none)
    (ac_NoTurner : PySem.W.nsIn K mainGlobals "NoTurner" = some (some (.ref C_NoTurner)))
    (xl_NoTurner : K.lookup C_NoTurner = some (excClassObj nm_NoTurner qn_NoTurner C_NoTurner Nn_NoTurner bs_NoTurner [.ref C_BoughError, .type "ValueError", .type "Exception", .type "BaseException", .type "object"] true sn_NoTurner sub_NoTurner ab_NoTurner col_NoTurner dd_NoTurner m0_NoTurner m1_NoTurner m2_NoTurner m3_NoTurner m5_NoTurner "ValueError.__new__"))
    (xe_NoTurner : PySem.W.subIn K (.ref C_NoTurner) (.type "BaseException") = some true)
    (xt_NoTurner : PySem.W.typeIn K (.ref C_NoTurner) = some (.type "type"))
    (xk_NoTurner : PySem.W.keepIn K (.ref C_NoTurner) = true)
    (xi_NoTurner : PySem.W.isClsIn K C_NoTurner = true)
    (xs_NoTurner : PySem.W.subIn K (.ref C_NoTurner) (.ref C_NoTurner) = some true)
    (g1_NoTurner : PySem.W.findIn K (.ref C_NoTurner) "__getattribute__" = some (some (.builtin "BaseException.__getattribute__")))
    (g2_NoTurner : PySem.W.findIn K (.ref C_NoTurner) "__getattr__" = some none)
    (g3_NoTurner : PySem.W.hasDictIn K C_NoTurner = true)
    (g4_NoTurner : PySem.W.findIn K (.ref C_NoTurner) "__class__" = some (some (.builtin "object.__class__")))
    (g5_NoTurner : PySem.W.specialIn K (.builtin "object.__class__") "__get__" = some (some (.builtin "getset_descriptor.__get__")))
    (g6_NoTurner : PySem.W.takesIn K (.builtin "object.__class__") = some true)
    (g7_NoTurner : PySem.W.mroIn K C_NoTurner (.type "object") = some true)
    (iI_NoTurner : PySem.W.findIn K (.ref C_NoTurner) "__init__" = some (some (.ref fI_NoTurner)))
    (tI_NoTurner : PySem.W.typeIn K (.ref fI_NoTurner) = some (.type "function"))
    (lI_NoTurner : K.lookup fI_NoTurner = some ⟨ocI_NoTurner, odI_NoTurner, .func (PySem.W.fnOf "__init__" "NoTurner.__init__" (defArgs sI_NoTurner) (defBody sI_NoTurner) (defScope sI_NoTurner) .none kVI_NoTurner dcI_NoTurner pmI_NoTurner anI_NoTurner cdI_NoTurner ctI_NoTurner), slI_NoTurner⟩)
    (cI_NoTurner : PySem.W.codeIn K cdI_NoTurner "NoTurner.__init__" = true)
    (kI_NoTurner : PySem.W.keepIn K (.ref fI_NoTurner) = true)
    (sa_NoTurner : PySem.W.findIn K (.ref C_NoTurner) "__setattr__" = some (some (.builtin "object.__setattr__")))
    (nf_NoTurner_word : PySem.W.findIn K (.ref C_NoTurner) "word" = some none)
    (nf_NoTurner_maker : PySem.W.findIn K (.ref C_NoTurner) "maker" = some none)
    (ac_TooWide : PySem.W.nsIn K mainGlobals "TooWide" = some (some (.ref C_TooWide)))
    (xl_TooWide : K.lookup C_TooWide = some (excClassObj nm_TooWide qn_TooWide C_TooWide Nn_TooWide bs_TooWide [.ref C_BoughError, .type "ValueError", .type "Exception", .type "BaseException", .type "object"] true sn_TooWide sub_TooWide ab_TooWide col_TooWide dd_TooWide m0_TooWide m1_TooWide m2_TooWide m3_TooWide m5_TooWide "ValueError.__new__"))
    (xe_TooWide : PySem.W.subIn K (.ref C_TooWide) (.type "BaseException") = some true)
    (xt_TooWide : PySem.W.typeIn K (.ref C_TooWide) = some (.type "type"))
    (xk_TooWide : PySem.W.keepIn K (.ref C_TooWide) = true)
    (xi_TooWide : PySem.W.isClsIn K C_TooWide = true)
    (xs_TooWide : PySem.W.subIn K (.ref C_TooWide) (.ref C_TooWide) = some true)
    (g1_TooWide : PySem.W.findIn K (.ref C_TooWide) "__getattribute__" = some (some (.builtin "BaseException.__getattribute__")))
    (g2_TooWide : PySem.W.findIn K (.ref C_TooWide) "__getattr__" = some none)
    (g3_TooWide : PySem.W.hasDictIn K C_TooWide = true)
    (g4_TooWide : PySem.W.findIn K (.ref C_TooWide) "__class__" = some (some (.builtin "object.__class__")))
    (g5_TooWide : PySem.W.specialIn K (.builtin "object.__class__") "__get__" = some (some (.builtin "getset_descriptor.__get__")))
    (g6_TooWide : PySem.W.takesIn K (.builtin "object.__class__") = some true)
    (g7_TooWide : PySem.W.mroIn K C_TooWide (.type "object") = some true)
    (iI_TooWide : PySem.W.findIn K (.ref C_TooWide) "__init__" = some (some (.ref fI_TooWide)))
    (tI_TooWide : PySem.W.typeIn K (.ref fI_TooWide) = some (.type "function"))
    (lI_TooWide : K.lookup fI_TooWide = some ⟨ocI_TooWide, odI_TooWide, .func (PySem.W.fnOf "__init__" "TooWide.__init__" (defArgs sI_TooWide) (defBody sI_TooWide) (defScope sI_TooWide) .none kVI_TooWide dcI_TooWide pmI_TooWide anI_TooWide cdI_TooWide ctI_TooWide), slI_TooWide⟩)
    (cI_TooWide : PySem.W.codeIn K cdI_TooWide "TooWide.__init__" = true)
    (kI_TooWide : PySem.W.keepIn K (.ref fI_TooWide) = true)
    (sa_TooWide : PySem.W.findIn K (.ref C_TooWide) "__setattr__" = some (some (.builtin "object.__setattr__")))
    (nf_TooWide_rooms : PySem.W.findIn K (.ref C_TooWide) "rooms" = some none)
    (ac_NoRow : PySem.W.nsIn K mainGlobals "NoRow" = some (some (.ref C_NoRow)))
    (xl_NoRow : K.lookup C_NoRow = some (excClassObj nm_NoRow qn_NoRow C_NoRow Nn_NoRow bs_NoRow [.ref C_BoughError, .type "ValueError", .type "Exception", .type "BaseException", .type "object"] true sn_NoRow sub_NoRow ab_NoRow col_NoRow dd_NoRow m0_NoRow m1_NoRow m2_NoRow m3_NoRow m5_NoRow "ValueError.__new__"))
    (xe_NoRow : PySem.W.subIn K (.ref C_NoRow) (.type "BaseException") = some true)
    (xt_NoRow : PySem.W.typeIn K (.ref C_NoRow) = some (.type "type"))
    (xk_NoRow : PySem.W.keepIn K (.ref C_NoRow) = true)
    (xi_NoRow : PySem.W.isClsIn K C_NoRow = true)
    (xs_NoRow : PySem.W.subIn K (.ref C_NoRow) (.ref C_NoRow) = some true)
    (g1_NoRow : PySem.W.findIn K (.ref C_NoRow) "__getattribute__" = some (some (.builtin "BaseException.__getattribute__")))
    (g2_NoRow : PySem.W.findIn K (.ref C_NoRow) "__getattr__" = some none)
    (g3_NoRow : PySem.W.hasDictIn K C_NoRow = true)
    (g4_NoRow : PySem.W.findIn K (.ref C_NoRow) "__class__" = some (some (.builtin "object.__class__")))
    (g5_NoRow : PySem.W.specialIn K (.builtin "object.__class__") "__get__" = some (some (.builtin "getset_descriptor.__get__")))
    (g6_NoRow : PySem.W.takesIn K (.builtin "object.__class__") = some true)
    (g7_NoRow : PySem.W.mroIn K C_NoRow (.type "object") = some true)
    (iI_NoRow : PySem.W.findIn K (.ref C_NoRow) "__init__" = some (some (.ref fI_NoRow)))
    (tI_NoRow : PySem.W.typeIn K (.ref fI_NoRow) = some (.type "function"))
    (lI_NoRow : K.lookup fI_NoRow = some ⟨ocI_NoRow, odI_NoRow, .func (PySem.W.fnOf "__init__" "NoRow.__init__" (defArgs sI_NoRow) (defBody sI_NoRow) (defScope sI_NoRow) .none kVI_NoRow dcI_NoRow pmI_NoRow anI_NoRow cdI_NoRow ctI_NoRow), slI_NoRow⟩)
    (cI_NoRow : PySem.W.codeIn K cdI_NoRow "NoRow.__init__" = true)
    (kI_NoRow : PySem.W.keepIn K (.ref fI_NoRow) = true)
    (vb_ValueError : PySem.W.findCls K (.type "ValueError") (.type "type") "__init__" = some (.val (.builtin "ValueError.__init__")))
    (ysWE : PySem.W.subIn K (.ref C_NoPrinter) (.ref C_BoughError) = some true)
    (ysWV : PySem.W.subIn K (.ref C_NoPrinter) (.type "ValueError") = some true)
    (ysW1 : PySem.W.subIn K (.ref C_NoPrinter) (.ref C_NoFit) = some false)
    (ysW2 : PySem.W.subIn K (.ref C_NoPrinter) (.ref C_NoReader) = some false)
    (ysW3 : PySem.W.subIn K (.ref C_NoPrinter) (.ref C_NoWood) = some false)
    (ysW4 : PySem.W.subIn K (.ref C_NoPrinter) (.ref C_NoRow) = some false)
    (ysW5 : PySem.W.subIn K (.ref C_NoPrinter) (.ref C_NoText) = some false)
    (ysW6 : PySem.W.subIn K (.ref C_NoPrinter) (.ref C_NoTree) = some false)
    (ysW7 : PySem.W.subIn K (.ref C_NoPrinter) (.ref C_NoTurner) = some false)
    (ysW8 : PySem.W.subIn K (.ref C_NoPrinter) (.ref C_NoWord) = some false)
    (ysW9 : PySem.W.subIn K (.ref C_NoPrinter) (.ref C_TooLong) = some false)
    (ysWa : PySem.W.subIn K (.ref C_NoPrinter) (.ref C_TooWide) = some false)
    (mc_MOST_LETTERS : PySem.W.nsIn K mainGlobals "MOST_LETTERS" = some (some (.int 9 tk_MOST_LETTERS)))
    (mc_MOST_BOXES : PySem.W.nsIn K mainGlobals "MOST_BOXES" = some (some (.int 2 tk_MOST_BOXES)))
    (a_kinds_by_name : PySem.W.nsIn K mainGlobals "kinds_by_name" = some (some (.ref f_kinds_by_name)))
    (l_kinds_by_name : K.lookup f_kinds_by_name = some ⟨oc_kinds_by_name, od_kinds_by_name, .func (PySem.W.fnOf "kinds_by_name" "kinds_by_name" (defArgs s_kinds_by_name) (defBody s_kinds_by_name) (defScope s_kinds_by_name) .none kV_kinds_by_name dc_kinds_by_name pm_kinds_by_name an_kinds_by_name cd_kinds_by_name ct_kinds_by_name), sl_kinds_by_name⟩)
    (c_kinds_by_name : PySem.W.codeIn K cd_kinds_by_name "kinds_by_name" = true)
    (k_kinds_by_name : PySem.W.keepIn K (.ref f_kinds_by_name) = true)
    (a_makers_of : PySem.W.nsIn K mainGlobals "makers_of" = some (some (.ref f_makers_of)))
    (l_makers_of : K.lookup f_makers_of = some ⟨oc_makers_of, od_makers_of, .func (PySem.W.fnOf "makers_of" "makers_of" (defArgs s_makers_of) (defBody s_makers_of) (defScope s_makers_of) .none kV_makers_of dc_makers_of pm_makers_of an_makers_of cd_makers_of ct_makers_of), sl_makers_of⟩)
    (c_makers_of : PySem.W.codeIn K cd_makers_of "makers_of" = true)
    (k_makers_of : PySem.W.keepIn K (.ref f_makers_of) = true)
    (a_maker_table : PySem.W.nsIn K mainGlobals "maker_table" = some (some (.ref f_maker_table)))
    (l_maker_table : K.lookup f_maker_table = some ⟨oc_maker_table, od_maker_table, .func (PySem.W.fnOf "maker_table" "maker_table" (defArgs s_maker_table) (defBody s_maker_table) (defScope s_maker_table) .none kV_maker_table dc_maker_table pm_maker_table an_maker_table cd_maker_table ct_maker_table), sl_maker_table⟩)
    (c_maker_table : PySem.W.codeIn K cd_maker_table "maker_table" = true)
    (k_maker_table : PySem.W.keepIn K (.ref f_maker_table) = true)
    (a_kind_of : PySem.W.nsIn K mainGlobals "kind_of" = some (some (.ref f_kind_of)))
    (l_kind_of : K.lookup f_kind_of = some ⟨oc_kind_of, od_kind_of, .func (PySem.W.fnOf "kind_of" "kind_of" (defArgs s_kind_of) (defBody s_kind_of) (defScope s_kind_of) .none kV_kind_of dc_kind_of pm_kind_of an_kind_of cd_kind_of ct_kind_of), sl_kind_of⟩)
    (c_kind_of : PySem.W.codeIn K cd_kind_of "kind_of" = true)
    (k_kind_of : PySem.W.keepIn K (.ref f_kind_of) = true)
    (a_parts_of : PySem.W.nsIn K mainGlobals "parts_of" = some (some (.ref f_parts_of)))
    (l_parts_of : K.lookup f_parts_of = some ⟨oc_parts_of, od_parts_of, .func (PySem.W.fnOf "parts_of" "parts_of" (defArgs s_parts_of) (defBody s_parts_of) (defScope s_parts_of) .none kV_parts_of dc_parts_of pm_parts_of an_parts_of cd_parts_of ct_parts_of), sl_parts_of⟩)
    (c_parts_of : PySem.W.codeIn K cd_parts_of "parts_of" = true)
    (k_parts_of : PySem.W.keepIn K (.ref f_parts_of) = true)
    (a_need : PySem.W.nsIn K mainGlobals "need" = some (some (.ref f_need)))
    (l_need : K.lookup f_need = some ⟨oc_need, od_need, .func (PySem.W.fnOf "need" "need" (defArgs s_need) (defBody s_need) (defScope s_need) .none kV_need dc_need pm_need an_need cd_need ct_need), sl_need⟩)
    (c_need : PySem.W.codeIn K cd_need "need" = true)
    (k_need : PySem.W.keepIn K (.ref f_need) = true)
    (a_is_letters : PySem.W.nsIn K mainGlobals "is_letters" = some (some (.ref f_is_letters)))
    (l_is_letters : K.lookup f_is_letters = some ⟨oc_is_letters, od_is_letters, .func (PySem.W.fnOf "is_letters" "is_letters" (defArgs s_is_letters) (defBody s_is_letters) (defScope s_is_letters) .none kV_is_letters dc_is_letters pm_is_letters an_is_letters cd_is_letters ct_is_letters), sl_is_letters⟩)
    (c_is_letters : PySem.W.codeIn K cd_is_letters "is_letters" = true)
    (k_is_letters : PySem.W.keepIn K (.ref f_is_letters) = true)
    (a_look_item : PySem.W.nsIn K mainGlobals "look_item" = some (some (.ref f_look_item)))
    (l_look_item : K.lookup f_look_item = some ⟨oc_look_item, od_look_item, .func (PySem.W.fnOf "look_item" "look_item" (defArgs s_look_item) (defBody s_look_item) (defScope s_look_item) .none kV_look_item dc_look_item pm_look_item an_look_item cd_look_item ct_look_item), sl_look_item⟩)
    (c_look_item : PySem.W.codeIn K cd_look_item "look_item" = true)
    (k_look_item : PySem.W.keepIn K (.ref f_look_item) = true)
    (a_look_printer : PySem.W.nsIn K mainGlobals "look_printer" = some (some (.ref f_look_printer)))
    (l_look_printer : K.lookup f_look_printer = some ⟨oc_look_printer, od_look_printer, .func (PySem.W.fnOf "look_printer" "look_printer" (defArgs s_look_printer) (defBody s_look_printer) (defScope s_look_printer) .none kV_look_printer dc_look_printer pm_look_printer an_look_printer cd_look_printer ct_look_printer), sl_look_printer⟩)
    (c_look_printer : PySem.W.codeIn K cd_look_printer "look_printer" = true)
    (k_look_printer : PySem.W.keepIn K (.ref f_look_printer) = true)
    (a_law_box : PySem.W.nsIn K mainGlobals "_law_box" = some (some (.ref f_law_box)))
    (l_law_box : K.lookup f_law_box = some ⟨oc_law_box, od_law_box, .func (PySem.W.fnOf "_law_box" "_law_box" (defArgs s_law_box) (defBody s_law_box) (defScope s_law_box) .none kV_law_box dc_law_box pm_law_box an_law_box cd_law_box ct_law_box), sl_law_box⟩)
    (c_law_box : PySem.W.codeIn K cd_law_box "_law_box" = true)
    (k_law_box : PySem.W.keepIn K (.ref f_law_box) = true)
    (a_law_take : PySem.W.nsIn K mainGlobals "_law_take" = some (some (.ref f_law_take)))
    (l_law_take : K.lookup f_law_take = some ⟨oc_law_take, od_law_take, .func (PySem.W.fnOf "_law_take" "_law_take" (defArgs s_law_take) (defBody s_law_take) (defScope s_law_take) .none kV_law_take dc_law_take pm_law_take an_law_take cd_law_take ct_law_take), sl_law_take⟩)
    (c_law_take : PySem.W.codeIn K cd_law_take "_law_take" = true)
    (k_law_take : PySem.W.keepIn K (.ref f_law_take) = true)
    (a_law_names : PySem.W.nsIn K mainGlobals "_law_names" = some (some (.ref f_law_names)))
    (l_law_names : K.lookup f_law_names = some ⟨oc_law_names, od_law_names, .func (PySem.W.fnOf "_law_names" "_law_names" (defArgs s_law_names) (defBody s_law_names) (defScope s_law_names) .none kV_law_names dc_law_names pm_law_names an_law_names cd_law_names ct_law_names), sl_law_names⟩)
    (c_law_names : PySem.W.codeIn K cd_law_names "_law_names" = true)
    (k_law_names : PySem.W.keepIn K (.ref f_law_names) = true)
    (a_law_wood : PySem.W.nsIn K mainGlobals "_law_wood" = some (some (.ref f_law_wood)))
    (l_law_wood : K.lookup f_law_wood = some ⟨oc_law_wood, od_law_wood, .func (PySem.W.fnOf "_law_wood" "_law_wood" (defArgs s_law_wood) (defBody s_law_wood) (defScope s_law_wood) .none kV_law_wood dc_law_wood pm_law_wood an_law_wood cd_law_wood ct_law_wood), sl_law_wood⟩)
    (c_law_wood : PySem.W.codeIn K cd_law_wood "_law_wood" = true)
    (k_law_wood : PySem.W.keepIn K (.ref f_law_wood) = true)
    (a_law_makers : PySem.W.nsIn K mainGlobals "_law_makers" = some (some (.ref f_law_makers)))
    (l_law_makers : K.lookup f_law_makers = some ⟨oc_law_makers, od_law_makers, .func (PySem.W.fnOf "_law_makers" "_law_makers" (defArgs s_law_makers) (defBody s_law_makers) (defScope s_law_makers) .none kV_law_makers dc_law_makers pm_law_makers an_law_makers cd_law_makers ct_law_makers), sl_law_makers⟩)
    (c_law_makers : PySem.W.codeIn K cd_law_makers "_law_makers" = true)
    (k_law_makers : PySem.W.keepIn K (.ref f_law_makers) = true)
    (a_law_letters : PySem.W.nsIn K mainGlobals "_law_letters" = some (some (.ref f_law_letters)))
    (l_law_letters : K.lookup f_law_letters = some ⟨oc_law_letters, od_law_letters, .func (PySem.W.fnOf "_law_letters" "_law_letters" (defArgs s_law_letters) (defBody s_law_letters) (defScope s_law_letters) .none kV_law_letters dc_law_letters pm_law_letters an_law_letters cd_law_letters ct_law_letters), sl_law_letters⟩)
    (c_law_letters : PySem.W.codeIn K cd_law_letters "_law_letters" = true)
    (k_law_letters : PySem.W.keepIn K (.ref f_law_letters) = true)
    (a_law_item_text : PySem.W.nsIn K mainGlobals "_law_item_text" = some (some (.ref f_law_item_text)))
    (l_law_item_text : K.lookup f_law_item_text = some ⟨oc_law_item_text, od_law_item_text, .func (PySem.W.fnOf "_law_item_text" "_law_item_text" (defArgs s_law_item_text) (defBody s_law_item_text) (defScope s_law_item_text) .none kV_law_item_text dc_law_item_text pm_law_item_text an_law_item_text cd_law_item_text ct_law_item_text), sl_law_item_text⟩)
    (c_law_item_text : PySem.W.codeIn K cd_law_item_text "_law_item_text" = true)
    (k_law_item_text : PySem.W.keepIn K (.ref f_law_item_text) = true)
    (a_law_text_counts : PySem.W.nsIn K mainGlobals "_law_text_counts" = some (some (.ref f_law_text_counts)))
    (l_law_text_counts : K.lookup f_law_text_counts = some ⟨oc_law_text_counts, od_law_text_counts, .func (PySem.W.fnOf "_law_text_counts" "_law_text_counts" (defArgs s_law_text_counts) (defBody s_law_text_counts) (defScope s_law_text_counts) .none kV_law_text_counts dc_law_text_counts pm_law_text_counts an_law_text_counts cd_law_text_counts ct_law_text_counts), sl_law_text_counts⟩)
    (c_law_text_counts : PySem.W.codeIn K cd_law_text_counts "_law_text_counts" = true)
    (k_law_text_counts : PySem.W.keepIn K (.ref f_law_text_counts) = true)
    (a_law_rows_of_items : PySem.W.nsIn K mainGlobals "_law_rows_of_items" = some (some (.ref f_law_rows_of_items)))
    (l_law_rows_of_items : K.lookup f_law_rows_of_items = some ⟨oc_law_rows_of_items, od_law_rows_of_items, .func (PySem.W.fnOf "_law_rows_of_items" "_law_rows_of_items" (defArgs s_law_rows_of_items) (defBody s_law_rows_of_items) (defScope s_law_rows_of_items) .none kV_law_rows_of_items dc_law_rows_of_items pm_law_rows_of_items an_law_rows_of_items cd_law_rows_of_items ct_law_rows_of_items), sl_law_rows_of_items⟩)
    (c_law_rows_of_items : PySem.W.codeIn K cd_law_rows_of_items "_law_rows_of_items" = true)
    (k_law_rows_of_items : PySem.W.keepIn K (.ref f_law_rows_of_items) = true)
    (a_law_boxes_left : PySem.W.nsIn K mainGlobals "_law_boxes_left" = some (some (.ref f_law_boxes_left)))
    (l_law_boxes_left : K.lookup f_law_boxes_left = some ⟨oc_law_boxes_left, od_law_boxes_left, .func (PySem.W.fnOf "_law_boxes_left" "_law_boxes_left" (defArgs s_law_boxes_left) (defBody s_law_boxes_left) (defScope s_law_boxes_left) .none kV_law_boxes_left dc_law_boxes_left pm_law_boxes_left an_law_boxes_left cd_law_boxes_left ct_law_boxes_left), sl_law_boxes_left⟩)
    (c_law_boxes_left : PySem.W.codeIn K cd_law_boxes_left "_law_boxes_left" = true)
    (k_law_boxes_left : PySem.W.keepIn K (.ref f_law_boxes_left) = true)
    (a_law_printer : PySem.W.nsIn K mainGlobals "_law_printer" = some (some (.ref f_law_printer)))
    (l_law_printer : K.lookup f_law_printer = some ⟨oc_law_printer, od_law_printer, .func (PySem.W.fnOf "_law_printer" "_law_printer" (defArgs s_law_printer) (defBody s_law_printer) (defScope s_law_printer) .none kV_law_printer dc_law_printer pm_law_printer an_law_printer cd_law_printer ct_law_printer), sl_law_printer⟩)
    (c_law_printer : PySem.W.codeIn K cd_law_printer "_law_printer" = true)
    (k_law_printer : PySem.W.keepIn K (.ref f_law_printer) = true)
    (a_law_wrong_item : PySem.W.nsIn K mainGlobals "_law_wrong_item" = some (some (.ref f_law_wrong_item)))
    (l_law_wrong_item : K.lookup f_law_wrong_item = some ⟨oc_law_wrong_item, od_law_wrong_item, .func (PySem.W.fnOf "_law_wrong_item" "_law_wrong_item" (defArgs s_law_wrong_item) (defBody s_law_wrong_item) (defScope s_law_wrong_item) .none kV_law_wrong_item dc_law_wrong_item pm_law_wrong_item an_law_wrong_item cd_law_wrong_item ct_law_wrong_item), sl_law_wrong_item⟩)
    (c_law_wrong_item : PySem.W.codeIn K cd_law_wrong_item "_law_wrong_item" = true)
    (k_law_wrong_item : PySem.W.keepIn K (.ref f_law_wrong_item) = true)
    (a_law_due : PySem.W.nsIn K mainGlobals "_law_due" = some (some (.ref f_law_due)))
    (l_law_due : K.lookup f_law_due = some ⟨oc_law_due, od_law_due, .func (PySem.W.fnOf "_law_due" "_law_due" (defArgs s_law_due) (defBody s_law_due) (defScope s_law_due) .none kV_law_due dc_law_due pm_law_due an_law_due cd_law_due ct_law_due), sl_law_due⟩)
    (c_law_due : PySem.W.codeIn K cd_law_due "_law_due" = true)
    (k_law_due : PySem.W.keepIn K (.ref f_law_due) = true)
    (a_law_exchanged : PySem.W.nsIn K mainGlobals "_law_exchanged" = some (some (.ref f_law_exchanged)))
    (l_law_exchanged : K.lookup f_law_exchanged = some ⟨oc_law_exchanged, od_law_exchanged, .func (PySem.W.fnOf "_law_exchanged" "_law_exchanged" (defArgs s_law_exchanged) (defBody s_law_exchanged) (defScope s_law_exchanged) .none kV_law_exchanged dc_law_exchanged pm_law_exchanged an_law_exchanged cd_law_exchanged ct_law_exchanged), sl_law_exchanged⟩)
    (c_law_exchanged : PySem.W.codeIn K cd_law_exchanged "_law_exchanged" = true)
    (k_law_exchanged : PySem.W.keepIn K (.ref f_law_exchanged) = true)
    (a_law_odd_letters : PySem.W.nsIn K mainGlobals "_law_odd_letters" = some (some (.ref f_law_odd_letters)))
    (l_law_odd_letters : K.lookup f_law_odd_letters = some ⟨oc_law_odd_letters, od_law_odd_letters, .func (PySem.W.fnOf "_law_odd_letters" "_law_odd_letters" (defArgs s_law_odd_letters) (defBody s_law_odd_letters) (defScope s_law_odd_letters) .none kV_law_odd_letters dc_law_odd_letters pm_law_odd_letters an_law_odd_letters cd_law_odd_letters ct_law_odd_letters), sl_law_odd_letters⟩)
    (c_law_odd_letters : PySem.W.codeIn K cd_law_odd_letters "_law_odd_letters" = true)
    (k_law_odd_letters : PySem.W.keepIn K (.ref f_law_odd_letters) = true)
    (a_law_odd_item : PySem.W.nsIn K mainGlobals "_law_odd_item" = some (some (.ref f_law_odd_item)))
    (l_law_odd_item : K.lookup f_law_odd_item = some ⟨oc_law_odd_item, od_law_odd_item, .func (PySem.W.fnOf "_law_odd_item" "_law_odd_item" (defArgs s_law_odd_item) (defBody s_law_odd_item) (defScope s_law_odd_item) .none kV_law_odd_item dc_law_odd_item pm_law_odd_item an_law_odd_item cd_law_odd_item ct_law_odd_item), sl_law_odd_item⟩)
    (c_law_odd_item : PySem.W.codeIn K cd_law_odd_item "_law_odd_item" = true)
    (k_law_odd_item : PySem.W.keepIn K (.ref f_law_odd_item) = true)
    (a_law_odd_rows : PySem.W.nsIn K mainGlobals "_law_odd_rows" = some (some (.ref f_law_odd_rows)))
    (l_law_odd_rows : K.lookup f_law_odd_rows = some ⟨oc_law_odd_rows, od_law_odd_rows, .func (PySem.W.fnOf "_law_odd_rows" "_law_odd_rows" (defArgs s_law_odd_rows) (defBody s_law_odd_rows) (defScope s_law_odd_rows) .none kV_law_odd_rows dc_law_odd_rows pm_law_odd_rows an_law_odd_rows cd_law_odd_rows ct_law_odd_rows), sl_law_odd_rows⟩)
    (c_law_odd_rows : PySem.W.codeIn K cd_law_odd_rows "_law_odd_rows" = true)
    (k_law_odd_rows : PySem.W.keepIn K (.ref f_law_odd_rows) = true)
    (a_law_odd : PySem.W.nsIn K mainGlobals "_law_odd" = some (some (.ref f_law_odd)))
    (l_law_odd : K.lookup f_law_odd = some ⟨oc_law_odd, od_law_odd, .func (PySem.W.fnOf "_law_odd" "_law_odd" (defArgs s_law_odd) (defBody s_law_odd) (defScope s_law_odd) .none kV_law_odd dc_law_odd pm_law_odd an_law_odd cd_law_odd ct_law_odd), sl_law_odd⟩)
    (c_law_odd : PySem.W.codeIn K cd_law_odd "_law_odd" = true)
    (k_law_odd : PySem.W.keepIn K (.ref f_law_odd) = true)
    (a_law_told : PySem.W.nsIn K mainGlobals "_law_told" = some (some (.ref f_law_told)))
    (l_law_told : K.lookup f_law_told = some ⟨oc_law_told, od_law_told, .func (PySem.W.fnOf "_law_told" "_law_told" (defArgs s_law_told) (defBody s_law_told) (defScope s_law_told) .none kV_law_told dc_law_told pm_law_told an_law_told cd_law_told ct_law_told), sl_law_told⟩)
    (c_law_told : PySem.W.codeIn K cd_law_told "_law_told" = true)
    (k_law_told : PySem.W.keepIn K (.ref f_law_told) = true)
    (a_law_right : PySem.W.nsIn K mainGlobals "_law_right" = some (some (.ref f_law_right)))
    (l_law_right : K.lookup f_law_right = some ⟨oc_law_right, od_law_right, .func (PySem.W.fnOf "_law_right" "_law_right" (defArgs s_law_right) (defBody s_law_right) (defScope s_law_right) .none kV_law_right dc_law_right pm_law_right an_law_right cd_law_right ct_law_right), sl_law_right⟩)
    (c_law_right : PySem.W.codeIn K cd_law_right "_law_right" = true)
    (k_law_right : PySem.W.keepIn K (.ref f_law_right) = true)
    (a_law : PySem.W.nsIn K mainGlobals "law" = some (some (.ref f_law)))
    (l_law : K.lookup f_law = some ⟨oc_law, od_law, .func (PySem.W.fnOf "law" "law" (defArgs s_law) (defBody s_law) (defScope s_law) .none kV_law dc_law pm_law an_law cd_law ct_law), sl_law⟩)
    (c_law : PySem.W.codeIn K cd_law "law" = true)
    (k_law : PySem.W.keepIn K (.ref f_law) = true)
    (zb_ValueError : PySem.W.nsIn K mainGlobals "ValueError" = some none)
    (zb_all : PySem.W.nsIn K mainGlobals "all" = some none)
    (zb_dict : PySem.W.nsIn K mainGlobals "dict" = some none)
    (zb_enumerate : PySem.W.nsIn K mainGlobals "enumerate" = some none)
    (zb_int : PySem.W.nsIn K mainGlobals "int" = some none)
    (zb_isinstance : PySem.W.nsIn K mainGlobals "isinstance" = some none)
    (zb_len : PySem.W.nsIn K mainGlobals "len" = some none)
    (zb_list : PySem.W.nsIn K mainGlobals "list" = some none)
    (zb_max : PySem.W.nsIn K mainGlobals "max" = some none)
    (zb_min : PySem.W.nsIn K mainGlobals "min" = some none)
    (zb_ord : PySem.W.nsIn K mainGlobals "ord" = some none)
    (zb_range : PySem.W.nsIn K mainGlobals "range" = some none)
    (zb_set : PySem.W.nsIn K mainGlobals "set" = some none)
    (zb_str : PySem.W.nsIn K mainGlobals "str" = some none)
    (zb_sum : PySem.W.nsIn K mainGlobals "sum" = some none)
    (zb_tuple : PySem.W.nsIn K mainGlobals "tuple" = some none)
    (zb_zip : PySem.W.nsIn K mainGlobals "zip" = some none)
    : ∃ T : Txt K mg, T.a_law = f_law ∧ ∀ (s : Shared) (v : Value), BindsTo s T.d_law ⟨[v], []⟩ [("_law_script", v)] := by
  refine ⟨{
    a_BoughError := C_BoughError,
    m_BoughError := PySem.W.mg_of X G ac_BoughError,
    x_BoughError := ⟨⟨_, _, _, _, _, _, _, _, _, _, _, _, _, _, _, xl_BoughError, fun Y => rfl⟩, xe_BoughError, xt_BoughError, xk_BoughError⟩,
    i0_BoughError := xi_BoughError,
    t0_BoughError := xt_BoughError,
    s0_BoughError := xs_BoughError,
    e_BoughError := exm_self xe_BoughError xi_BoughError xt_BoughError xs_BoughError,
    c_BoughError := ⟨g1_BoughError, g2_BoughError, xe_BoughError, g3_BoughError, g4_BoughError, g5_BoughError, g6_BoughError, g7_BoughError⟩,
    h_BoughError := ⟨h1_BoughError, h2_BoughError, h3_BoughError⟩,
    a_NoText := C_NoText,
    m_NoText := PySem.W.mg_of X G ac_NoText,
    x_NoText := ⟨⟨_, _, _, _, _, _, _, _, _, _, _, _, _, _, _, xl_NoText, fun Y => rfl⟩, xe_NoText, xt_NoText, xk_NoText⟩,
    i0_NoText := xi_NoText,
    t0_NoText := xt_NoText,
    s0_NoText := xs_NoText,
    e_NoText := exm_self xe_NoText xi_NoText xt_NoText xs_NoText,
    c_NoText := ⟨g1_NoText, g2_NoText, xe_NoText, g3_NoText, g4_NoText, g5_NoText, g6_NoText, g7_NoText⟩,
    aI_NoText := fI_NoText,
    dI_NoText := _,
    FI_NoText := fun_mk (st := sI_NoText) lI_NoText cI_NoText kI_NoText,
    bI_NoText := (fun_mk (st := sI_NoText) lI_NoText cI_NoText kI_NoText).binds (ps := ["self", "row"]) fun _ _ _ _ _ _ us hl => match us, hl with | [_, _], _ => rfl,
    i_NoText := iI_NoText,
    t_NoText := tI_NoText,
    o_NoText := ⟨⟨_, _, _, _, _, _, _, _, _, _, _, _, _, _, _, xl_NoText, rfl⟩, sa_NoText, xe_NoText, xt_NoText, xk_NoText⟩,
    n_NoText_row := nf_NoText_row,
    a_NoWood := C_NoWood,
    m_NoWood := PySem.W.mg_of X G ac_NoWood,
    x_NoWood := ⟨⟨_, _, _, _, _, _, _, _, _, _, _, _, _, _, _, xl_NoWood, fun Y => rfl⟩, xe_NoWood, xt_NoWood, xk_NoWood⟩,
    i0_NoWood := xi_NoWood,
    t0_NoWood := xt_NoWood,
    s0_NoWood := xs_NoWood,
    e_NoWood := exm_self xe_NoWood xi_NoWood xt_NoWood xs_NoWood,
    c_NoWood := ⟨g1_NoWood, g2_NoWood, xe_NoWood, g3_NoWood, g4_NoWood, g5_NoWood, g6_NoWood, g7_NoWood⟩,
    aI_NoWood := fI_NoWood,
    dI_NoWood := _,
    FI_NoWood := fun_mk (st := sI_NoWood) lI_NoWood cI_NoWood kI_NoWood,
    bI_NoWood := (fun_mk (st := sI_NoWood) lI_NoWood cI_NoWood kI_NoWood).binds (ps := ["self", "word", "name"]) fun _ _ _ _ _ _ us hl => match us, hl with | [_, _, _], _ => rfl,
    i_NoWood := iI_NoWood,
    t_NoWood := tI_NoWood,
    o_NoWood := ⟨⟨_, _, _, _, _, _, _, _, _, _, _, _, _, _, _, xl_NoWood, rfl⟩, sa_NoWood, xe_NoWood, xt_NoWood, xk_NoWood⟩,
    n_NoWood_word := nf_NoWood_word,
    n_NoWood_name := nf_NoWood_name,
    a_NoTree := C_NoTree,
    m_NoTree := PySem.W.mg_of X G ac_NoTree,
    x_NoTree := ⟨⟨_, _, _, _, _, _, _, _, _, _, _, _, _, _, _, xl_NoTree, fun Y => rfl⟩, xe_NoTree, xt_NoTree, xk_NoTree⟩,
    i0_NoTree := xi_NoTree,
    t0_NoTree := xt_NoTree,
    s0_NoTree := xs_NoTree,
    e_NoTree := exm_self xe_NoTree xi_NoTree xt_NoTree xs_NoTree,
    c_NoTree := ⟨g1_NoTree, g2_NoTree, xe_NoTree, g3_NoTree, g4_NoTree, g5_NoTree, g6_NoTree, g7_NoTree⟩,
    aI_NoTree := fI_NoTree,
    dI_NoTree := _,
    FI_NoTree := fun_mk (st := sI_NoTree) lI_NoTree cI_NoTree kI_NoTree,
    bI_NoTree := (fun_mk (st := sI_NoTree) lI_NoTree cI_NoTree kI_NoTree).binds (ps := ["self", "at"]) fun _ _ _ _ _ _ us hl => match us, hl with | [_, _], _ => rfl,
    i_NoTree := iI_NoTree,
    t_NoTree := tI_NoTree,
    o_NoTree := ⟨⟨_, _, _, _, _, _, _, _, _, _, _, _, _, _, _, xl_NoTree, rfl⟩, sa_NoTree, xe_NoTree, xt_NoTree, xk_NoTree⟩,
    n_NoTree_at := nf_NoTree_at,
    a_NoWord := C_NoWord,
    m_NoWord := PySem.W.mg_of X G ac_NoWord,
    x_NoWord := ⟨⟨_, _, _, _, _, _, _, _, _, _, _, _, _, _, _, xl_NoWord, fun Y => rfl⟩, xe_NoWord, xt_NoWord, xk_NoWord⟩,
    i0_NoWord := xi_NoWord,
    t0_NoWord := xt_NoWord,
    s0_NoWord := xs_NoWord,
    e_NoWord := exm_self xe_NoWord xi_NoWord xt_NoWord xs_NoWord,
    c_NoWord := ⟨g1_NoWord, g2_NoWord, xe_NoWord, g3_NoWord, g4_NoWord, g5_NoWord, g6_NoWord, g7_NoWord⟩,
    aI_NoWord := fI_NoWord,
    dI_NoWord := _,
    FI_NoWord := fun_mk (st := sI_NoWord) lI_NoWord cI_NoWord kI_NoWord,
    bI_NoWord := (fun_mk (st := sI_NoWord) lI_NoWord cI_NoWord kI_NoWord).binds (ps := ["self", "at"]) fun _ _ _ _ _ _ us hl => match us, hl with | [_, _], _ => rfl,
    i_NoWord := iI_NoWord,
    t_NoWord := tI_NoWord,
    o_NoWord := ⟨⟨_, _, _, _, _, _, _, _, _, _, _, _, _, _, _, xl_NoWord, rfl⟩, sa_NoWord, xe_NoWord, xt_NoWord, xk_NoWord⟩,
    n_NoWord_at := nf_NoWord_at,
    a_TooLong := C_TooLong,
    m_TooLong := PySem.W.mg_of X G ac_TooLong,
    x_TooLong := ⟨⟨_, _, _, _, _, _, _, _, _, _, _, _, _, _, _, xl_TooLong, fun Y => rfl⟩, xe_TooLong, xt_TooLong, xk_TooLong⟩,
    i0_TooLong := xi_TooLong,
    t0_TooLong := xt_TooLong,
    s0_TooLong := xs_TooLong,
    e_TooLong := exm_self xe_TooLong xi_TooLong xt_TooLong xs_TooLong,
    c_TooLong := ⟨g1_TooLong, g2_TooLong, xe_TooLong, g3_TooLong, g4_TooLong, g5_TooLong, g6_TooLong, g7_TooLong⟩,
    aI_TooLong := fI_TooLong,
    dI_TooLong := _,
    FI_TooLong := fun_mk (st := sI_TooLong) lI_TooLong cI_TooLong kI_TooLong,
    bI_TooLong := (fun_mk (st := sI_TooLong) lI_TooLong cI_TooLong kI_TooLong).binds (ps := ["self", "most"]) fun _ _ _ _ _ _ us hl => match us, hl with | [_, _], _ => rfl,
    i_TooLong := iI_TooLong,
    t_TooLong := tI_TooLong,
    o_TooLong := ⟨⟨_, _, _, _, _, _, _, _, _, _, _, _, _, _, _, xl_TooLong, rfl⟩, sa_TooLong, xe_TooLong, xt_TooLong, xk_TooLong⟩,
    n_TooLong_most := nf_TooLong_most,
    a_NoReader := C_NoReader,
    m_NoReader := PySem.W.mg_of X G ac_NoReader,
    x_NoReader := ⟨⟨_, _, _, _, _, _, _, _, _, _, _, _, _, _, _, xl_NoReader, fun Y => rfl⟩, xe_NoReader, xt_NoReader, xk_NoReader⟩,
    i0_NoReader := xi_NoReader,
    t0_NoReader := xt_NoReader,
    s0_NoReader := xs_NoReader,
    e_NoReader := exm_self xe_NoReader xi_NoReader xt_NoReader xs_NoReader,
    c_NoReader := ⟨g1_NoReader, g2_NoReader, xe_NoReader, g3_NoReader, g4_NoReader, g5_NoReader, g6_NoReader, g7_NoReader⟩,
    aI_NoReader := fI_NoReader,
    dI_NoReader := _,
    FI_NoReader := fun_mk (st := sI_NoReader) lI_NoReader cI_NoReader kI_NoReader,
    bI_NoReader := (fun_mk (st := sI_NoReader) lI_NoReader cI_NoReader kI_NoReader).binds (ps := ["self", "word", "maker"]) fun _ _ _ _ _ _ us hl => match us, hl with | [_, _, _], _ => rfl,
    i_NoReader := iI_NoReader,
    t_NoReader := tI_NoReader,
    o_NoReader := ⟨⟨_, _, _, _, _, _, _, _, _, _, _, _, _, _, _, xl_NoReader, rfl⟩, sa_NoReader, xe_NoReader, xt_NoReader, xk_NoReader⟩,
    n_NoReader_word := nf_NoReader_word,
    n_NoReader_maker := nf_NoReader_maker,
    a_NoFit := C_NoFit,
    m_NoFit := PySem.W.mg_of X G ac_NoFit,
    x_NoFit := ⟨⟨_, _, _, _, _, _, _, _, _, _, _, _, _, _, _, xl_NoFit, fun Y => rfl⟩, xe_NoFit, xt_NoFit, xk_NoFit⟩,
    i0_NoFit := xi_NoFit,
    t0_NoFit := xt_NoFit,
    s0_NoFit := xs_NoFit,
    e_NoFit := exm_self xe_NoFit xi_NoFit xt_NoFit xs_NoFit,
    c_NoFit := ⟨g1_NoFit, g2_NoFit, xe_NoFit, g3_NoFit, g4_NoFit, g5_NoFit, g6_NoFit, g7_NoFit⟩,
    aI_NoFit := fI_NoFit,
    dI_NoFit := _,
    FI_NoFit := fun_mk (st := sI_NoFit) lI_NoFit cI_NoFit kI_NoFit,
    bI_NoFit := (fun_mk (st := sI_NoFit) lI_NoFit cI_NoFit kI_NoFit).binds (ps := ["self", "at"]) fun _ _ _ _ _ _ us hl => match us, hl with | [_, _], _ => rfl,
    i_NoFit := iI_NoFit,
    t_NoFit := tI_NoFit,
    o_NoFit := ⟨⟨_, _, _, _, _, _, _, _, _, _, _, _, _, _, _, xl_NoFit, rfl⟩, sa_NoFit, xe_NoFit, xt_NoFit, xk_NoFit⟩,
    n_NoFit_at := nf_NoFit_at,
    a_NoPrinter := C_NoPrinter,
    m_NoPrinter := PySem.W.mg_of X G ac_NoPrinter,
    x_NoPrinter := ⟨⟨_, _, _, _, _, _, _, _, _, _, _, _, _, _, _, xl_NoPrinter, fun Y => rfl⟩, xe_NoPrinter, xt_NoPrinter, xk_NoPrinter⟩,
    i0_NoPrinter := xi_NoPrinter,
    t0_NoPrinter := xt_NoPrinter,
    s0_NoPrinter := xs_NoPrinter,
    e_NoPrinter := exm_self xe_NoPrinter xi_NoPrinter xt_NoPrinter xs_NoPrinter,
    c_NoPrinter := ⟨g1_NoPrinter, g2_NoPrinter, xe_NoPrinter, g3_NoPrinter, g4_NoPrinter, g5_NoPrinter, g6_NoPrinter, g7_NoPrinter⟩,
    aI_NoPrinter := fI_NoPrinter,
    dI_NoPrinter := _,
    FI_NoPrinter := fun_mk (st := sI_NoPrinter) lI_NoPrinter cI_NoPrinter kI_NoPrinter,
    bI_NoPrinter := (fun_mk (st := sI_NoPrinter) lI_NoPrinter cI_NoPrinter kI_NoPrinter).binds (ps := ["self", "word", "maker"]) fun _ _ _ _ _ _ us hl => match us, hl with | [_, _, _], _ => rfl,
    i_NoPrinter := iI_NoPrinter,
    t_NoPrinter := tI_NoPrinter,
    o_NoPrinter := ⟨⟨_, _, _, _, _, _, _, _, _, _, _, _, _, _, _, xl_NoPrinter, rfl⟩, sa_NoPrinter, xe_NoPrinter, xt_NoPrinter, xk_NoPrinter⟩,
    n_NoPrinter_word := nf_NoPrinter_word,
    n_NoPrinter_maker := nf_NoPrinter_maker,
    a_NoTurner := C_NoTurner,
    m_NoTurner := PySem.W.mg_of X G ac_NoTurner,
    x_NoTurner := ⟨⟨_, _, _, _, _, _, _, _, _, _, _, _, _, _, _, xl_NoTurner, fun Y => rfl⟩, xe_NoTurner, xt_NoTurner, xk_NoTurner⟩,
    i0_NoTurner := xi_NoTurner,
    t0_NoTurner := xt_NoTurner,
    s0_NoTurner := xs_NoTurner,
    e_NoTurner := exm_self xe_NoTurner xi_NoTurner xt_NoTurner xs_NoTurner,
    c_NoTurner := ⟨g1_NoTurner, g2_NoTurner, xe_NoTurner, g3_NoTurner, g4_NoTurner, g5_NoTurner, g6_NoTurner, g7_NoTurner⟩,
    aI_NoTurner := fI_NoTurner,
    dI_NoTurner := _,
    FI_NoTurner := fun_mk (st := sI_NoTurner) lI_NoTurner cI_NoTurner kI_NoTurner,
    bI_NoTurner := (fun_mk (st := sI_NoTurner) lI_NoTurner cI_NoTurner kI_NoTurner).binds (ps := ["self", "word", "maker"]) fun _ _ _ _ _ _ us hl => match us, hl with | [_, _, _], _ => rfl,
    i_NoTurner := iI_NoTurner,
    t_NoTurner := tI_NoTurner,
    o_NoTurner := ⟨⟨_, _, _, _, _, _, _, _, _, _, _, _, _, _, _, xl_NoTurner, rfl⟩, sa_NoTurner, xe_NoTurner, xt_NoTurner, xk_NoTurner⟩,
    n_NoTurner_word := nf_NoTurner_word,
    n_NoTurner_maker := nf_NoTurner_maker,
    a_TooWide := C_TooWide,
    m_TooWide := PySem.W.mg_of X G ac_TooWide,
    x_TooWide := ⟨⟨_, _, _, _, _, _, _, _, _, _, _, _, _, _, _, xl_TooWide, fun Y => rfl⟩, xe_TooWide, xt_TooWide, xk_TooWide⟩,
    i0_TooWide := xi_TooWide,
    t0_TooWide := xt_TooWide,
    s0_TooWide := xs_TooWide,
    e_TooWide := exm_self xe_TooWide xi_TooWide xt_TooWide xs_TooWide,
    c_TooWide := ⟨g1_TooWide, g2_TooWide, xe_TooWide, g3_TooWide, g4_TooWide, g5_TooWide, g6_TooWide, g7_TooWide⟩,
    aI_TooWide := fI_TooWide,
    dI_TooWide := _,
    FI_TooWide := fun_mk (st := sI_TooWide) lI_TooWide cI_TooWide kI_TooWide,
    bI_TooWide := (fun_mk (st := sI_TooWide) lI_TooWide cI_TooWide kI_TooWide).binds (ps := ["self", "rooms"]) fun _ _ _ _ _ _ us hl => match us, hl with | [_, _], _ => rfl,
    i_TooWide := iI_TooWide,
    t_TooWide := tI_TooWide,
    o_TooWide := ⟨⟨_, _, _, _, _, _, _, _, _, _, _, _, _, _, _, xl_TooWide, rfl⟩, sa_TooWide, xe_TooWide, xt_TooWide, xk_TooWide⟩,
    n_TooWide_rooms := nf_TooWide_rooms,
    a_NoRow := C_NoRow,
    m_NoRow := PySem.W.mg_of X G ac_NoRow,
    x_NoRow := ⟨⟨_, _, _, _, _, _, _, _, _, _, _, _, _, _, _, xl_NoRow, fun Y => rfl⟩, xe_NoRow, xt_NoRow, xk_NoRow⟩,
    i0_NoRow := xi_NoRow,
    t0_NoRow := xt_NoRow,
    s0_NoRow := xs_NoRow,
    e_NoRow := exm_self xe_NoRow xi_NoRow xt_NoRow xs_NoRow,
    c_NoRow := ⟨g1_NoRow, g2_NoRow, xe_NoRow, g3_NoRow, g4_NoRow, g5_NoRow, g6_NoRow, g7_NoRow⟩,
    aI_NoRow := fI_NoRow,
    dI_NoRow := _,
    FI_NoRow := fun_mk (st := sI_NoRow) lI_NoRow cI_NoRow kI_NoRow,
    bI_NoRow := (fun_mk (st := sI_NoRow) lI_NoRow cI_NoRow kI_NoRow).binds (ps := ["self"]) fun _ _ _ _ _ _ us hl => match us, hl with | [_], _ => rfl,
    i_NoRow := iI_NoRow,
    t_NoRow := tI_NoRow,
    v_ValueError := vb_ValueError,
    sWE := ysWE,
    sWV := ysWV,
    sW1 := ysW1,
    sW2 := ysW2,
    sW3 := ysW3,
    sW4 := ysW4,
    sW5 := ysW5,
    sW6 := ysW6,
    sW7 := ysW7,
    sW8 := ysW8,
    sW9 := ysW9,
    sWa := ysWa,
    m_MOST_LETTERS := ⟨_, PySem.W.mg_of X G mc_MOST_LETTERS, ⟨_, rfl⟩⟩,
    m_MOST_BOXES := ⟨_, PySem.W.mg_of X G mc_MOST_BOXES, ⟨_, rfl⟩⟩,
    a_kinds_by_name := f_kinds_by_name,
    d_kinds_by_name := _,
    m_kinds_by_name := PySem.W.mg_of X G a_kinds_by_name,
    F_kinds_by_name := fun_mk (st := s_kinds_by_name) l_kinds_by_name c_kinds_by_name k_kinds_by_name,
    b_kinds_by_name := (fun_mk (st := s_kinds_by_name) l_kinds_by_name c_kinds_by_name k_kinds_by_name).binds (ps := ["wood"]) fun _ _ _ _ _ _ us hl => match us, hl with | [_], _ => rfl,
    a_makers_of := f_makers_of,
    d_makers_of := _,
    m_makers_of := PySem.W.mg_of X G a_makers_of,
    F_makers_of := fun_mk (st := s_makers_of) l_makers_of c_makers_of k_makers_of,
    b_makers_of := (fun_mk (st := s_makers_of) l_makers_of c_makers_of k_makers_of).binds (ps := ["wood"]) fun _ _ _ _ _ _ us hl => match us, hl with | [_], _ => rfl,
    a_maker_table := f_maker_table,
    d_maker_table := _,
    m_maker_table := PySem.W.mg_of X G a_maker_table,
    F_maker_table := fun_mk (st := s_maker_table) l_maker_table c_maker_table k_maker_table,
    b_maker_table := (fun_mk (st := s_maker_table) l_maker_table c_maker_table k_maker_table).binds (ps := ["wood"]) fun _ _ _ _ _ _ us hl => match us, hl with | [_], _ => rfl,
    a_kind_of := f_kind_of,
    d_kind_of := _,
    m_kind_of := PySem.W.mg_of X G a_kind_of,
    F_kind_of := fun_mk (st := s_kind_of) l_kind_of c_kind_of k_kind_of,
    b_kind_of := (fun_mk (st := s_kind_of) l_kind_of c_kind_of k_kind_of).binds (ps := ["wood", "maker"]) fun _ _ _ _ _ _ us hl => match us, hl with | [_, _], _ => rfl,
    a_parts_of := f_parts_of,
    d_parts_of := _,
    m_parts_of := PySem.W.mg_of X G a_parts_of,
    F_parts_of := fun_mk (st := s_parts_of) l_parts_of c_parts_of k_parts_of,
    b_parts_of := (fun_mk (st := s_parts_of) l_parts_of c_parts_of k_parts_of).binds (ps := ["wood", "maker"]) fun _ _ _ _ _ _ us hl => match us, hl with | [_, _], _ => rfl,
    a_need := f_need,
    d_need := _,
    m_need := PySem.W.mg_of X G a_need,
    F_need := fun_mk (st := s_need) l_need c_need k_need,
    b_need := (fun_mk (st := s_need) l_need c_need k_need).binds (ps := ["good", "word", "maker"]) fun _ _ _ _ _ _ us hl => match us, hl with | [_, _, _], _ => rfl,
    a_is_letters := f_is_letters,
    d_is_letters := _,
    m_is_letters := PySem.W.mg_of X G a_is_letters,
    F_is_letters := fun_mk (st := s_is_letters) l_is_letters c_is_letters k_is_letters,
    b_is_letters := (fun_mk (st := s_is_letters) l_is_letters c_is_letters k_is_letters).binds (ps := ["text"]) fun _ _ _ _ _ _ us hl => match us, hl with | [_], _ => rfl,
    a_look_item := f_look_item,
    d_look_item := _,
    m_look_item := PySem.W.mg_of X G a_look_item,
    F_look_item := fun_mk (st := s_look_item) l_look_item c_look_item k_look_item,
    b_look_item := (fun_mk (st := s_look_item) l_look_item c_look_item k_look_item).binds (ps := ["item", "letters", "counts", "seen"]) fun _ _ _ _ _ _ us hl => match us, hl with | [_, _, _, _], _ => rfl,
    a_look_printer := f_look_printer,
    d_look_printer := _,
    m_look_printer := PySem.W.mg_of X G a_look_printer,
    F_look_printer := fun_mk (st := s_look_printer) l_look_printer c_look_printer k_look_printer,
    b_look_printer := (fun_mk (st := s_look_printer) l_look_printer c_look_printer k_look_printer).binds (ps := ["wood", "printer"]) fun _ _ _ _ _ _ us hl => match us, hl with | [_, _], _ => rfl,
    a_law_box := f_law_box,
    d_law_box := _,
    m_law_box := PySem.W.mg_of X G a_law_box,
    F_law_box := fun_mk (st := s_law_box) l_law_box c_law_box k_law_box,
    b_law_box := (fun_mk (st := s_law_box) l_law_box c_law_box k_law_box).binds (ps := ["_law_script", "_law_k"]) fun _ _ _ _ _ _ us hl => match us, hl with | [_, _], _ => rfl,
    a_law_take := f_law_take,
    d_law_take := _,
    m_law_take := PySem.W.mg_of X G a_law_take,
    F_law_take := fun_mk (st := s_law_take) l_law_take c_law_take k_law_take,
    b_law_take := (fun_mk (st := s_law_take) l_law_take c_law_take k_law_take).binds (ps := ["_law_box_here", "_law_many"]) fun _ _ _ _ _ _ us hl => match us, hl with | [_, _], _ => rfl,
    a_law_names := f_law_names,
    d_law_names := _,
    m_law_names := PySem.W.mg_of X G a_law_names,
    F_law_names := fun_mk (st := s_law_names) l_law_names c_law_names k_law_names,
    b_law_names := (fun_mk (st := s_law_names) l_law_names c_law_names k_law_names).binds (ps := ["_law_box_here", "_law_many"]) fun _ _ _ _ _ _ us hl => match us, hl with | [_, _], _ => rfl,
    a_law_wood := f_law_wood,
    d_law_wood := _,
    m_law_wood := PySem.W.mg_of X G a_law_wood,
    F_law_wood := fun_mk (st := s_law_wood) l_law_wood c_law_wood k_law_wood,
    b_law_wood := (fun_mk (st := s_law_wood) l_law_wood c_law_wood k_law_wood).binds (ps := ["_law_box_here", "_law_most_kinds", "_law_most_makers"]) fun _ _ _ _ _ _ us hl => match us, hl with | [_, _, _], _ => rfl,
    a_law_makers := f_law_makers,
    d_law_makers := _,
    m_law_makers := PySem.W.mg_of X G a_law_makers,
    F_law_makers := fun_mk (st := s_law_makers) l_law_makers c_law_makers k_law_makers,
    b_law_makers := (fun_mk (st := s_law_makers) l_law_makers c_law_makers k_law_makers).binds (ps := ["_law_wood_here"]) fun _ _ _ _ _ _ us hl => match us, hl with | [_], _ => rfl,
    a_law_letters := f_law_letters,
    d_law_letters := _,
    m_law_letters := PySem.W.mg_of X G a_law_letters,
    F_law_letters := fun_mk (st := s_law_letters) l_law_letters c_law_letters k_law_letters,
    b_law_letters := (fun_mk (st := s_law_letters) l_law_letters c_law_letters k_law_letters).binds (ps := ["_law_box_here", "_law_many"]) fun _ _ _ _ _ _ us hl => match us, hl with | [_, _], _ => rfl,
    a_law_item_text := f_law_item_text,
    d_law_item_text := _,
    m_law_item_text := PySem.W.mg_of X G a_law_item_text,
    F_law_item_text := fun_mk (st := s_law_item_text) l_law_item_text c_law_item_text k_law_item_text,
    b_law_item_text := (fun_mk (st := s_law_item_text) l_law_item_text c_law_item_text k_law_item_text).binds (ps := ["_law_box_here", "_law_letters_here"]) fun _ _ _ _ _ _ us hl => match us, hl with | [_, _], _ => rfl,
    a_law_text_counts := f_law_text_counts,
    d_law_text_counts := _,
    m_law_text_counts := PySem.W.mg_of X G a_law_text_counts,
    F_law_text_counts := fun_mk (st := s_law_text_counts) l_law_text_counts c_law_text_counts k_law_text_counts,
    b_law_text_counts := (fun_mk (st := s_law_text_counts) l_law_text_counts c_law_text_counts k_law_text_counts).binds (ps := ["_law_box_here", "_law_wood_here", "_law_most"]) fun _ _ _ _ _ _ us hl => match us, hl with | [_, _, _], _ => rfl,
    a_law_rows_of_items := f_law_rows_of_items,
    d_law_rows_of_items := _,
    m_law_rows_of_items := PySem.W.mg_of X G a_law_rows_of_items,
    F_law_rows_of_items := fun_mk (st := s_law_rows_of_items) l_law_rows_of_items c_law_rows_of_items k_law_rows_of_items,
    b_law_rows_of_items := (fun_mk (st := s_law_rows_of_items) l_law_rows_of_items c_law_rows_of_items k_law_rows_of_items).binds (ps := ["_law_box_here", "_law_letters_here", "_law_many", "_law_left"]) fun _ _ _ _ _ _ us hl => match us, hl with | [_, _, _, _], _ => rfl,
    a_law_boxes_left := f_law_boxes_left,
    d_law_boxes_left := _,
    m_law_boxes_left := PySem.W.mg_of X G a_law_boxes_left,
    F_law_boxes_left := fun_mk (st := s_law_boxes_left) l_law_boxes_left c_law_boxes_left k_law_boxes_left,
    b_law_boxes_left := (fun_mk (st := s_law_boxes_left) l_law_boxes_left c_law_boxes_left k_law_boxes_left).binds (ps := ["_law_parts", "_law_counts"]) fun _ _ _ _ _ _ us hl => match us, hl with | [_, _], _ => rfl,
    a_law_printer := f_law_printer,
    d_law_printer := _,
    m_law_printer := PySem.W.mg_of X G a_law_printer,
    F_law_printer := fun_mk (st := s_law_printer) l_law_printer c_law_printer k_law_printer,
    b_law_printer := (fun_mk (st := s_law_printer) l_law_printer c_law_printer k_law_printer).binds (ps := ["_law_box_here", "_law_wood_here", "_law_letters_here", "_law_counts"]) fun _ _ _ _ _ _ us hl => match us, hl with | [_, _, _, _], _ => rfl,
    a_law_wrong_item := f_law_wrong_item,
    d_law_wrong_item := _,
    m_law_wrong_item := PySem.W.mg_of X G a_law_wrong_item,
    F_law_wrong_item := fun_mk (st := s_law_wrong_item) l_law_wrong_item c_law_wrong_item k_law_wrong_item,
    b_law_wrong_item := (fun_mk (st := s_law_wrong_item) l_law_wrong_item c_law_wrong_item k_law_wrong_item).binds (ps := ["_law_item", "_law_letters_here", "_law_own", "_law_seen"]) fun _ _ _ _ _ _ us hl => match us, hl with | [_, _, _, _], _ => rfl,
    a_law_due := f_law_due,
    d_law_due := _,
    m_law_due := PySem.W.mg_of X G a_law_due,
    F_law_due := fun_mk (st := s_law_due) l_law_due c_law_due k_law_due,
    b_law_due := (fun_mk (st := s_law_due) l_law_due c_law_due k_law_due).binds (ps := ["_law_wood_here", "_law_printer_here"]) fun _ _ _ _ _ _ us hl => match us, hl with | [_, _], _ => rfl,
    a_law_exchanged := f_law_exchanged,
    d_law_exchanged := _,
    m_law_exchanged := PySem.W.mg_of X G a_law_exchanged,
    F_law_exchanged := fun_mk (st := s_law_exchanged) l_law_exchanged c_law_exchanged k_law_exchanged,
    b_law_exchanged := (fun_mk (st := s_law_exchanged) l_law_exchanged c_law_exchanged k_law_exchanged).binds (ps := ["_law_some", "_law_at", "_law_things"]) fun _ _ _ _ _ _ us hl => match us, hl with | [_, _, _], _ => rfl,
    a_law_odd_letters := f_law_odd_letters,
    d_law_odd_letters := _,
    m_law_odd_letters := PySem.W.mg_of X G a_law_odd_letters,
    F_law_odd_letters := fun_mk (st := s_law_odd_letters) l_law_odd_letters c_law_odd_letters k_law_odd_letters,
    b_law_odd_letters := (fun_mk (st := s_law_odd_letters) l_law_odd_letters c_law_odd_letters k_law_odd_letters).binds (ps := ["_law_box_here", "_law_letters_here"]) fun _ _ _ _ _ _ us hl => match us, hl with | [_, _], _ => rfl,
    a_law_odd_item := f_law_odd_item,
    d_law_odd_item := _,
    m_law_odd_item := PySem.W.mg_of X G a_law_odd_item,
    F_law_odd_item := fun_mk (st := s_law_odd_item) l_law_odd_item c_law_odd_item k_law_odd_item,
    b_law_odd_item := (fun_mk (st := s_law_odd_item) l_law_odd_item c_law_odd_item k_law_odd_item).binds (ps := ["_law_box_here", "_law_letters_here", "_law_item", "_law_rows", "_law_own"]) fun _ _ _ _ _ _ us hl => match us, hl with | [_, _, _, _, _], _ => rfl,
    a_law_odd_rows := f_law_odd_rows,
    d_law_odd_rows := _,
    m_law_odd_rows := PySem.W.mg_of X G a_law_odd_rows,
    F_law_odd_rows := fun_mk (st := s_law_odd_rows) l_law_odd_rows c_law_odd_rows k_law_odd_rows,
    b_law_odd_rows := (fun_mk (st := s_law_odd_rows) l_law_odd_rows c_law_odd_rows k_law_odd_rows).binds (ps := ["_law_box_here", "_law_printer_here", "_law_m", "_law_own"]) fun _ _ _ _ _ _ us hl => match us, hl with | [_, _, _, _], _ => rfl,
    a_law_odd := f_law_odd,
    d_law_odd := _,
    m_law_odd := PySem.W.mg_of X G a_law_odd,
    F_law_odd := fun_mk (st := s_law_odd) l_law_odd c_law_odd k_law_odd,
    b_law_odd := (fun_mk (st := s_law_odd) l_law_odd c_law_odd k_law_odd).binds (ps := ["_law_box_here", "_law_wood_here", "_law_printer_here"]) fun _ _ _ _ _ _ us hl => match us, hl with | [_, _, _], _ => rfl,
    a_law_told := f_law_told,
    d_law_told := _,
    m_law_told := PySem.W.mg_of X G a_law_told,
    F_law_told := fun_mk (st := s_law_told) l_law_told c_law_told k_law_told,
    b_law_told := (fun_mk (st := s_law_told) l_law_told c_law_told k_law_told).binds (ps := ["_law_wood_here", "_law_printer_here"]) fun _ _ _ _ _ _ us hl => match us, hl with | [_, _], _ => rfl,
    a_law_right := f_law_right,
    d_law_right := _,
    m_law_right := PySem.W.mg_of X G a_law_right,
    F_law_right := fun_mk (st := s_law_right) l_law_right c_law_right k_law_right,
    b_law_right := (fun_mk (st := s_law_right) l_law_right c_law_right k_law_right).binds (ps := ["_law_wood_here", "_law_printer_here"]) fun _ _ _ _ _ _ us hl => match us, hl with | [_, _], _ => rfl,
    a_law := f_law,
    d_law := _,
    m_law := PySem.W.mg_of X G a_law,
    F_law := fun_mk (st := s_law) l_law c_law k_law,
    b_law := (fun_mk (st := s_law) l_law c_law k_law).binds (ps := ["_law_script"]) fun _ _ _ _ _ _ us hl => match us, hl with | [_], _ => rfl,
    z_ValueError := PySem.W.mg_none_of X G zb_ValueError,
    z_all := PySem.W.mg_none_of X G zb_all,
    z_dict := PySem.W.mg_none_of X G zb_dict,
    z_enumerate := PySem.W.mg_none_of X G zb_enumerate,
    z_int := PySem.W.mg_none_of X G zb_int,
    z_isinstance := PySem.W.mg_none_of X G zb_isinstance,
    z_len := PySem.W.mg_none_of X G zb_len,
    z_list := PySem.W.mg_none_of X G zb_list,
    z_max := PySem.W.mg_none_of X G zb_max,
    z_min := PySem.W.mg_none_of X G zb_min,
    z_ord := PySem.W.mg_none_of X G zb_ord,
    z_range := PySem.W.mg_none_of X G zb_range,
    z_set := PySem.W.mg_none_of X G zb_set,
    z_str := PySem.W.mg_none_of X G zb_str,
    z_sum := PySem.W.mg_none_of X G zb_sum,
    z_tuple := PySem.W.mg_none_of X G zb_tuple,
    z_zip := PySem.W.mg_none_of X G zb_zip }, rfl, fun s v => .of_eq rfl⟩
end Lw
namespace Lw
open PySem PySem.Spec PyProof.Rows L2 Bk
theorem walk {l : PySem.W.OpenLaw} {q : Program} {loose : List Str} {XP : (Str → Option Value) → Heap → Prop} {YP : World → Heap → Prop} {d : DefRec} {K : Params → PySem.W.Frag} (hn : l.most = some 63) (hdf : d.params.defaults = [])
    (hY : ∀ (w : World) (h : Heap), YP w h → (K w.params).In h)
    (F : ∀ (w : World) (mg : Str → Option Value) (fa : Addr) (h : Heap), (K w.params).In h → h.Ns mainGlobals mg → mg d.name = some (.ref fa) →
      ∃ fd : FuncData, (∀ (s : Shared) (u : Value), BindsTo s fd ⟨[u], []⟩ [("_law_script", u)]) ∧ ∀ base : Heap, (K w.params).In base → base.Ns mainGlobals mg → FnOk l.prog w (K w.params) mg base (L2.CX l.prog w) 7 fa fd ["_law_script"] (spLaw (K w.params))) :
    PySem.W.WalkO q loose XP YP l.row.toRowW d [] (fun f vs => PySem.call f vs) :=
  L2.walk_of (n := 63) (k := 7) (x := "_law_script") (CX := fun w => L2.CX l.prog w) (sp := fun w => spLaw (K w.params)) hn (by decide) hdf ⟨rfl, by decide, by decide⟩ hY F (fun _ _ a ns hl hO hS => spLaw_of hO hS hl) fun _ _ _ _ _ z => cx_false z
theorem fin {P : Program} {w : World} {K : PySem.W.Frag} {mg : Str → Option Value} {fa f : Addr} (hmg : mg "law" = some (.ref fa)) (z : ∃ T : Txt K mg, T.a_law = f ∧ ∀ (s : Shared) (v : Value), BindsTo s T.d_law ⟨[v], []⟩ [("_law_script", v)]) :
    ∃ fd : FuncData, (∀ (s : Shared) (u : Value), BindsTo s fd ⟨[u], []⟩ [("_law_script", u)]) ∧ ∀ base : Heap, K.In base → base.Ns mainGlobals mg → FnOk P w K mg base (L2.CX P w) 7 fa fd ["_law_script"] (spLaw K) := by
  obtain ⟨T, ea, hb⟩ := z
  refine ⟨T.d_law, hb, fun base _ _ => ?_⟩
  have e := hmg.symm.trans T.m_law
  cases e
  exact ok_law T
end Lw
open PySem PySem.W PyProof.Rows
set_option maxRecDepth 100000 in
set_option maxHeartbeats 0 in
theorem PySem.Challenge.cw_boughkept_k41_printers_looked_at_holds : PySem.Challenge.rw_boughkept_k41_printers_looked_at.Holds := by
  w_on; o_law; k_head; (case hw => w_witness2)
  k_fill
  refine Lw.walk (l := PySem.Challenge.rw_boughkept_k41_printers_looked_at) rfl rfl (fun w h Y => PySem.W.kIn_of Y) ?F
  case F =>
    intro w mg fa h KX G hmg
    refine' Lw.fin hmg (Lw.mk_txt KX G ?ac_BoughError ?xl_BoughError ?xe_BoughError ?xt_BoughError ?xk_BoughError ?xi_BoughError ?xs_BoughError ?g1_BoughError ?g2_BoughError ?g3_BoughError ?g4_BoughError ?g5_BoughError ?g6_BoughError ?g7_BoughError ?h1_BoughError ?h2_BoughError ?h3_BoughError ?ac_NoText ?xl_NoText ?xe_NoText ?xt_NoText ?xk_NoText ?xi_NoText ?xs_NoText ?g1_NoText ?g2_NoText ?g3_NoText ?g4_NoText ?g5_NoText ?g6_NoText ?g7_NoText ?iI_NoText ?tI_NoText ?lI_NoText ?cI_NoText ?kI_NoText ?sa_NoText ?nf_NoText_row ?ac_NoWood ?xl_NoWood ?xe_NoWood ?xt_NoWood ?xk_NoWood ?xi_NoWood ?xs_NoWood ?g1_NoWood ?g2_NoWood ?g3_NoWood ?g4_NoWood ?g5_NoWood ?g6_NoWood ?g7_NoWood ?iI_NoWood ?tI_NoWood ?lI_NoWood ?cI_NoWood ?kI_NoWood ?sa_NoWood ?nf_NoWood_word ?nf_NoWood_name ?ac_NoTree ?xl_NoTree ?xe_NoTree ?xt_NoTree ?xk_NoTree ?xi_NoTree ?xs_NoTree ?g1_NoTree ?g2_NoTree ?g3_NoTree ?g4_NoTree ?g5_NoTree ?g6_NoTree ?g7_NoTree ?iI_NoTree ?tI_NoTree ?lI_NoTree ?cI_NoTree ?kI_NoTree ?sa_NoTree ?nf_NoTree_at ?ac_NoWord ?xl_NoWord ?xe_NoWord ?xt_NoWord ?xk_NoWord ?xi_NoWord ?xs_NoWord ?g1_NoWord ?g2_NoWord ?g3_NoWord ?g4_NoWord ?g5_NoWord ?g6_NoWord ?g7_NoWord ?iI_NoWord ?tI_NoWord ?lI_NoWord ?cI_NoWord ?kI_NoWord ?sa_NoWord ?nf_NoWord_at ?ac_TooLong ?xl_TooLong ?xe_TooLong ?xt_TooLong ?xk_TooLong ?xi_TooLong ?xs_TooLong ?g1_TooLong ?g2_TooLong ?g3_TooLong ?g4_TooLong ?g5_TooLong ?g6_TooLong ?g7_TooLong ?iI_TooLong ?tI_TooLong ?lI_TooLong ?cI_TooLong ?kI_TooLong ?sa_TooLong ?nf_TooLong_most ?ac_NoReader ?xl_NoReader ?xe_NoReader ?xt_NoReader ?xk_NoReader ?xi_NoReader ?xs_NoReader ?g1_NoReader ?g2_NoReader ?g3_NoReader ?g4_NoReader ?g5_NoReader ?g6_NoReader ?g7_NoReader ?iI_NoReader ?tI_NoReader ?lI_NoReader ?cI_NoReader ?kI_NoReader ?sa_NoReader ?nf_NoReader_word ?nf_NoReader_maker ?ac_NoFit ?xl_NoFit ?xe_NoFit ?xt_NoFit ?xk_NoFit ?xi_NoFit ?xs_NoFit ?g1_NoFit ?g2_NoFit ?g3_NoFit ?g4_NoFit ?g5_NoFit ?g6_NoFit ?g7_NoFit ?iI_NoFit ?tI_NoFit ?lI_NoFit ?cI_NoFit ?kI_NoFit ?sa_NoFit ?nf_NoFit_at ?ac_NoPrinter ?xl_NoPrinter ?xe_NoPrinter ?xt_NoPrinter ?xk_NoPrinter ?xi_NoPrinter ?xs_NoPrinter ?g1_NoPrinter ?g2_NoPrinter ?g3_NoPrinter ?g4_NoPrinter ?g5_NoPrinter ?g6_NoPrinter ?g7_NoPrinter ?iI_NoPrinter ?tI_NoPrinter ?lI_NoPrinter ?cI_NoPrinter ?kI_NoPrinter ?sa_NoPrinter ?nf_NoPrinter_word ?nf_NoPrinter_maker ?ac_NoTurner ?xl_NoTurner ?xe_NoTurner ?xt_NoTurner ?xk_NoTurner ?xi_NoTurner ?xs_NoTurner ?g1_NoTurner ?g2_NoTurner ?g3_NoTurner ?g4_NoTurner ?g5_NoTurner ?g6_NoTurner ?g7_NoTurner ?iI_NoTurner ?tI_NoTurner ?lI_NoTurner ?cI_NoTurner ?kI_NoTurner ?sa_NoTurner ?nf_NoTurner_word ?nf_NoTurner_maker ?ac_TooWide ?xl_TooWide ?xe_TooWide ?xt_TooWide ?xk_TooWide ?xi_TooWide ?xs_TooWide ?g1_TooWide ?g2_TooWide ?g3_TooWide ?g4_TooWide ?g5_TooWide ?g6_TooWide ?g7_TooWide ?iI_TooWide ?tI_TooWide ?lI_TooWide ?cI_TooWide ?kI_TooWide ?sa_TooWide ?nf_TooWide_rooms ?ac_NoRow ?xl_NoRow ?xe_NoRow ?xt_NoRow ?xk_NoRow ?xi_NoRow ?xs_NoRow ?g1_NoRow ?g2_NoRow ?g3_NoRow ?g4_NoRow ?g5_NoRow ?g6_NoRow ?g7_NoRow ?iI_NoRow ?tI_NoRow ?lI_NoRow ?cI_NoRow ?kI_NoRow ?vb_ValueError ?ysWE ?ysWV ?ysW1 ?ysW2 ?ysW3 ?ysW4 ?ysW5 ?ysW6 ?ysW7 ?ysW8 ?ysW9 ?ysWa ?mc_MOST_LETTERS ?mc_MOST_BOXES ?a_kinds_by_name ?l_kinds_by_name ?c_kinds_by_name ?k_kinds_by_name ?a_makers_of ?l_makers_of ?c_makers_of ?k_makers_of ?a_maker_table ?l_maker_table ?c_maker_table ?k_maker_table ?a_kind_of ?l_kind_of ?c_kind_of ?k_kind_of ?a_parts_of ?l_parts_of ?c_parts_of ?k_parts_of ?a_need ?l_need ?c_need ?k_need ?a_is_letters ?l_is_letters ?c_is_letters ?k_is_letters ?a_look_item ?l_look_item ?c_look_item ?k_look_item ?a_look_printer ?l_look_printer ?c_look_printer ?k_look_printer ?a_law_box ?l_law_box ?c_law_box ?k_law_box ?a_law_take ?l_law_take ?c_law_take ?k_law_take ?a_law_names ?l_law_names ?c_law_names ?k_law_names ?a_law_wood ?l_law_wood ?c_law_wood ?k_law_wood ?a_law_makers ?l_law_makers ?c_law_makers ?k_law_makers ?a_law_letters ?l_law_letters ?c_law_letters ?k_law_letters ?a_law_item_text ?l_law_item_text ?c_law_item_text ?k_law_item_text ?a_law_text_counts ?l_law_text_counts ?c_law_text_counts ?k_law_text_counts ?a_law_rows_of_items ?l_law_rows_of_items ?c_law_rows_of_items ?k_law_rows_of_items ?a_law_boxes_left ?l_law_boxes_left ?c_law_boxes_left ?k_law_boxes_left ?a_law_printer ?l_law_printer ?c_law_printer ?k_law_printer ?a_law_wrong_item ?l_law_wrong_item ?c_law_wrong_item ?k_law_wrong_item ?a_law_due ?l_law_due ?c_law_due ?k_law_due ?a_law_exchanged ?l_law_exchanged ?c_law_exchanged ?k_law_exchanged ?a_law_odd_letters ?l_law_odd_letters ?c_law_odd_letters ?k_law_odd_letters ?a_law_odd_item ?l_law_odd_item ?c_law_odd_item ?k_law_odd_item ?a_law_odd_rows ?l_law_odd_rows ?c_law_odd_rows ?k_law_odd_rows ?a_law_odd ?l_law_odd ?c_law_odd ?k_law_odd ?a_law_told ?l_law_told ?c_law_told ?k_law_told ?a_law_right ?l_law_right ?c_law_right ?k_law_right ?a_law ?l_law ?c_law ?k_law ?zb_ValueError ?zb_all ?zb_dict ?zb_enumerate ?zb_int ?zb_isinstance ?zb_len ?zb_list ?zb_max ?zb_min ?zb_ord ?zb_range ?zb_set ?zb_str ?zb_sum ?zb_tuple ?zb_zip)
    (case ac_BoughError => k_is)
    (case xl_BoughError => k_is)
    (case xe_BoughError => k_is)
    (case xt_BoughError => k_is)
    (case xk_BoughError => k_is)
    (case xi_BoughError => k_is)
    (case xs_BoughError => k_is)
    (case g1_BoughError => k_is)
    (case g2_BoughError => k_is)
    (case g3_BoughError => k_is)
    (case g4_BoughError => k_is)
    (case g5_BoughError => k_is)
    (case g6_BoughError => k_is)
    (case g7_BoughError => k_is)
    (case h1_BoughError => k_is)
    (case h2_BoughError => k_is)
    (case h3_BoughError => k_is)
    (case ac_NoText => k_is)
    (case xl_NoText => k_is)
    (case xe_NoText => k_is)
    (case xt_NoText => k_is)
    (case xk_NoText => k_is)
    (case xi_NoText => k_is)
    (case xs_NoText => k_is)
    (case g1_NoText => k_is)
    (case g2_NoText => k_is)
    (case g3_NoText => k_is)
    (case g4_NoText => k_is)
    (case g5_NoText => k_is)
    (case g6_NoText => k_is)
    (case g7_NoText => k_is)
    (case iI_NoText => k_is)
    (case tI_NoText => k_is)
    (case lI_NoText => k_is)
    (case cI_NoText => k_is)
    (case kI_NoText => k_is)
    (case sa_NoText => k_is)
    (case nf_NoText_row => k_is)
    (case ac_NoWood => k_is)
    (case xl_NoWood => k_is)
    (case xe_NoWood => k_is)
    (case xt_NoWood => k_is)
    (case xk_NoWood => k_is)
    (case xi_NoWood => k_is)
    (case xs_NoWood => k_is)
    (case g1_NoWood => k_is)
    (case g2_NoWood => k_is)
    (case g3_NoWood => k_is)
    (case g4_NoWood => k_is)
    (case g5_NoWood => k_is)
    (case g6_NoWood => k_is)
    (case g7_NoWood => k_is)
    (case iI_NoWood => k_is)
    (case tI_NoWood => k_is)
    (case lI_NoWood => k_is)
    (case cI_NoWood => k_is)
    (case kI_NoWood => k_is)
    (case sa_NoWood => k_is)
    (case nf_NoWood_word => k_is)
    (case nf_NoWood_name => k_is)
    (case ac_NoTree => k_is)
    (case xl_NoTree => k_is)
    (case xe_NoTree => k_is)
    (case xt_NoTree => k_is)
    (case xk_NoTree => k_is)
    (case xi_NoTree => k_is)
    (case xs_NoTree => k_is)
    (case g1_NoTree => k_is)
    (case g2_NoTree => k_is)
    (case g3_NoTree => k_is)
    (case g4_NoTree => k_is)
    (case g5_NoTree => k_is)
    (case g6_NoTree => k_is)
    (case g7_NoTree => k_is)
    (case iI_NoTree => k_is)
    (case tI_NoTree => k_is)
    (case lI_NoTree => k_is)
    (case cI_NoTree => k_is)
    (case kI_NoTree => k_is)
    (case sa_NoTree => k_is)
    (case nf_NoTree_at => k_is)
    (case ac_NoWord => k_is)
    (case xl_NoWord => k_is)
    (case xe_NoWord => k_is)
    (case xt_NoWord => k_is)
    (case xk_NoWord => k_is)
    (case xi_NoWord => k_is)
    (case xs_NoWord => k_is)
    (case g1_NoWord => k_is)
    (case g2_NoWord => k_is)
    (case g3_NoWord => k_is)
    (case g4_NoWord => k_is)
    (case g5_NoWord => k_is)
    (case g6_NoWord => k_is)
    (case g7_NoWord => k_is)
    (case iI_NoWord => k_is)
    (case tI_NoWord => k_is)
    (case lI_NoWord => k_is)
    (case cI_NoWord => k_is)
    (case kI_NoWord => k_is)
    (case sa_NoWord => k_is)
    (case nf_NoWord_at => k_is)
    (case ac_TooLong => k_is)
    (case xl_TooLong => k_is)
    (case xe_TooLong => k_is)
    (case xt_TooLong => k_is)
    (case xk_TooLong => k_is)
    (case xi_TooLong => k_is)
    (case xs_TooLong => k_is)
    (case g1_TooLong => k_is)
    (case g2_TooLong => k_is)
    (case g3_TooLong => k_is)
    (case g4_TooLong => k_is)
    (case g5_TooLong => k_is)
    (case g6_TooLong => k_is)
    (case g7_TooLong => k_is)
    (case iI_TooLong => k_is)
    (case tI_TooLong => k_is)
    (case lI_TooLong => k_is)
    (case cI_TooLong => k_is)
    (case kI_TooLong => k_is)
    (case sa_TooLong => k_is)
    (case nf_TooLong_most => k_is)
    (case ac_NoReader => k_is)
    (case xl_NoReader => k_is)
    (case xe_NoReader => k_is)
    (case xt_NoReader => k_is)
    (case xk_NoReader => k_is)
    (case xi_NoReader => k_is)
    (case xs_NoReader => k_is)
    (case g1_NoReader => k_is)
    (case g2_NoReader => k_is)
    (case g3_NoReader => k_is)
    (case g4_NoReader => k_is)
    (case g5_NoReader => k_is)
    (case g6_NoReader => k_is)
    (case g7_NoReader => k_is)
    (case iI_NoReader => k_is)
    (case tI_NoReader => k_is)
    (case lI_NoReader => k_is)
    (case cI_NoReader => k_is)
    (case kI_NoReader => k_is)
    (case sa_NoReader => k_is)
    (case nf_NoReader_word => k_is)
    (case nf_NoReader_maker => k_is)
    (case ac_NoFit => k_is)
    (case xl_NoFit => k_is)
    (case xe_NoFit => k_is)
    (case xt_NoFit => k_is)
    (case xk_NoFit => k_is)
    (case xi_NoFit => k_is)
    (case xs_NoFit => k_is)
    (case g1_NoFit => k_is)
    (case g2_NoFit => k_is)
    (case g3_NoFit => k_is)
    (case g4_NoFit => k_is)
    (case g5_NoFit => k_is)
    (case g6_NoFit => k_is)
    (case g7_NoFit => k_is)
    (case iI_NoFit => k_is)
    (case tI_NoFit => k_is)
    (case lI_NoFit => k_is)
    (case cI_NoFit => k_is)
    (case kI_NoFit => k_is)
    (case sa_NoFit => k_is)
    (case nf_NoFit_at => k_is)
    (case ac_NoPrinter => k_is)
    (case xl_NoPrinter => k_is)
    (case xe_NoPrinter => k_is)
    (case xt_NoPrinter => k_is)
    (case xk_NoPrinter => k_is)
    (case xi_NoPrinter => k_is)
    (case xs_NoPrinter => k_is)
    (case g1_NoPrinter => k_is)
    (case g2_NoPrinter => k_is)
    (case g3_NoPrinter => k_is)
    (case g4_NoPrinter => k_is)
    (case g5_NoPrinter => k_is)
    (case g6_NoPrinter => k_is)
    (case g7_NoPrinter => k_is)
    (case iI_NoPrinter => k_is)
    (case tI_NoPrinter => k_is)
    (case lI_NoPrinter => k_is)
    (case cI_NoPrinter => k_is)
    (case kI_NoPrinter => k_is)
    (case sa_NoPrinter => k_is)
    (case nf_NoPrinter_word => k_is)
    (case nf_NoPrinter_maker => k_is)
    (case ac_NoTurner => k_is)
    (case xl_NoTurner => k_is)
    (case xe_NoTurner => k_is)
    (case xt_NoTurner => k_is)
    (case xk_NoTurner => k_is)
    (case xi_NoTurner => k_is)
    (case xs_NoTurner => k_is)
    (case g1_NoTurner => k_is)
    (case g2_NoTurner => k_is)
    (case g3_NoTurner => k_is)
    (case g4_NoTurner => k_is)
    (case g5_NoTurner => k_is)
    (case g6_NoTurner => k_is)
    (case g7_NoTurner => k_is)
    (case iI_NoTurner => k_is)
    (case tI_NoTurner => k_is)
    (case lI_NoTurner => k_is)
    (case cI_NoTurner => k_is)
    (case kI_NoTurner => k_is)
    (case sa_NoTurner => k_is)
    (case nf_NoTurner_word => k_is)
    (case nf_NoTurner_maker => k_is)
    (case ac_TooWide => k_is)
    (case xl_TooWide => k_is)
    (case xe_TooWide => k_is)
    (case xt_TooWide => k_is)
    (case xk_TooWide => k_is)
    (case xi_TooWide => k_is)
    (case xs_TooWide => k_is)
    (case g1_TooWide => k_is)
    (case g2_TooWide => k_is)
    (case g3_TooWide => k_is)
    (case g4_TooWide => k_is)
    (case g5_TooWide => k_is)
    (case g6_TooWide => k_is)
    (case g7_TooWide => k_is)
    (case iI_TooWide => k_is)
    (case tI_TooWide => k_is)
    (case lI_TooWide => k_is)
    (case cI_TooWide => k_is)
    (case kI_TooWide => k_is)
    (case sa_TooWide => k_is)
    (case nf_TooWide_rooms => k_is)
    (case ac_NoRow => k_is)
    (case xl_NoRow => k_is)
    (case xe_NoRow => k_is)
    (case xt_NoRow => k_is)
    (case xk_NoRow => k_is)
    (case xi_NoRow => k_is)
    (case xs_NoRow => k_is)
    (case g1_NoRow => k_is)
    (case g2_NoRow => k_is)
    (case g3_NoRow => k_is)
    (case g4_NoRow => k_is)
    (case g5_NoRow => k_is)
    (case g6_NoRow => k_is)
    (case g7_NoRow => k_is)
    (case iI_NoRow => k_is)
    (case tI_NoRow => k_is)
    (case lI_NoRow => k_is)
    (case cI_NoRow => k_is)
    (case kI_NoRow => k_is)
    (case vb_ValueError => k_is)
    (case ysWE => k_is)
    (case ysWV => k_is)
    (case ysW1 => k_is)
    (case ysW2 => k_is)
    (case ysW3 => k_is)
    (case ysW4 => k_is)
    (case ysW5 => k_is)
    (case ysW6 => k_is)
    (case ysW7 => k_is)
    (case ysW8 => k_is)
    (case ysW9 => k_is)
    (case ysWa => k_is)
    (case mc_MOST_LETTERS => k_is)
    (case mc_MOST_BOXES => k_is)
    (case a_kinds_by_name => k_is)
    (case l_kinds_by_name => k_is)
    (case c_kinds_by_name => k_is)
    (case k_kinds_by_name => k_is)
    (case a_makers_of => k_is)
    (case l_makers_of => k_is)
    (case c_makers_of => k_is)
    (case k_makers_of => k_is)
    (case a_maker_table => k_is)
    (case l_maker_table => k_is)
    (case c_maker_table => k_is)
    (case k_maker_table => k_is)
    (case a_kind_of => k_is)
    (case l_kind_of => k_is)
    (case c_kind_of => k_is)
    (case k_kind_of => k_is)
    (case a_parts_of => k_is)
    (case l_parts_of => k_is)
    (case c_parts_of => k_is)
    (case k_parts_of => k_is)
    (case a_need => k_is)
    (case l_need => k_is)
    (case c_need => k_is)
    (case k_need => k_is)
    (case a_is_letters => k_is)
    (case l_is_letters => k_is)
    (case c_is_letters => k_is)
    (case k_is_letters => k_is)
    (case a_look_item => k_is)
    (case l_look_item => k_is)
    (case c_look_item => k_is)
    (case k_look_item => k_is)
    (case a_look_printer => k_is)
    (case l_look_printer => k_is)
    (case c_look_printer => k_is)
    (case k_look_printer => k_is)
    (case a_law_box => k_is)
    (case l_law_box => k_is)
    (case c_law_box => k_is)
    (case k_law_box => k_is)
    (case a_law_take => k_is)
    (case l_law_take => k_is)
    (case c_law_take => k_is)
    (case k_law_take => k_is)
    (case a_law_names => k_is)
    (case l_law_names => k_is)
    (case c_law_names => k_is)
    (case k_law_names => k_is)
    (case a_law_wood => k_is)
    (case l_law_wood => k_is)
    (case c_law_wood => k_is)
    (case k_law_wood => k_is)
    (case a_law_makers => k_is)
    (case l_law_makers => k_is)
    (case c_law_makers => k_is)
    (case k_law_makers => k_is)
    (case a_law_letters => k_is)
    (case l_law_letters => k_is)
    (case c_law_letters => k_is)
    (case k_law_letters => k_is)
    (case a_law_item_text => k_is)
    (case l_law_item_text => k_is)
    (case c_law_item_text => k_is)
    (case k_law_item_text => k_is)
    (case a_law_text_counts => k_is)
    (case l_law_text_counts => k_is)
    (case c_law_text_counts => k_is)
    (case k_law_text_counts => k_is)
    (case a_law_rows_of_items => k_is)
    (case l_law_rows_of_items => k_is)
    (case c_law_rows_of_items => k_is)
    (case k_law_rows_of_items => k_is)
    (case a_law_boxes_left => k_is)
    (case l_law_boxes_left => k_is)
    (case c_law_boxes_left => k_is)
    (case k_law_boxes_left => k_is)
    (case a_law_printer => k_is)
    (case l_law_printer => k_is)
    (case c_law_printer => k_is)
    (case k_law_printer => k_is)
    (case a_law_wrong_item => k_is)
    (case l_law_wrong_item => k_is)
    (case c_law_wrong_item => k_is)
    (case k_law_wrong_item => k_is)
    (case a_law_due => k_is)
    (case l_law_due => k_is)
    (case c_law_due => k_is)
    (case k_law_due => k_is)
    (case a_law_exchanged => k_is)
    (case l_law_exchanged => k_is)
    (case c_law_exchanged => k_is)
    (case k_law_exchanged => k_is)
    (case a_law_odd_letters => k_is)
    (case l_law_odd_letters => k_is)
    (case c_law_odd_letters => k_is)
    (case k_law_odd_letters => k_is)
    (case a_law_odd_item => k_is)
    (case l_law_odd_item => k_is)
    (case c_law_odd_item => k_is)
    (case k_law_odd_item => k_is)
    (case a_law_odd_rows => k_is)
    (case l_law_odd_rows => k_is)
    (case c_law_odd_rows => k_is)
    (case k_law_odd_rows => k_is)
    (case a_law_odd => k_is)
    (case l_law_odd => k_is)
    (case c_law_odd => k_is)
    (case k_law_odd => k_is)
    (case a_law_told => k_is)
    (case l_law_told => k_is)
    (case c_law_told => k_is)
    (case k_law_told => k_is)
    (case a_law_right => k_is)
    (case l_law_right => k_is)
    (case c_law_right => k_is)
    (case k_law_right => k_is)
    (case a_law => k_is)
    (case l_law => k_is)
    (case c_law => k_is)
    (case k_law => k_is)
    (case zb_ValueError => k_is)
    (case zb_all => k_is)
    (case zb_dict => k_is)
    (case zb_enumerate => k_is)
    (case zb_int => k_is)
    (case zb_isinstance => k_is)
    (case zb_len => k_is)
    (case zb_list => k_is)
    (case zb_max => k_is)
    (case zb_min => k_is)
    (case zb_ord => k_is)
    (case zb_range => k_is)
    (case zb_set => k_is)
    (case zb_str => k_is)
    (case zb_sum => k_is)
    (case zb_tuple => k_is)
    (case zb_zip => k_is)
#print axioms PySem.Challenge.cw_boughkept_k41_printers_looked_at_holds
