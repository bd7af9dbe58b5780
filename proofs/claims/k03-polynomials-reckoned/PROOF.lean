import PyProof.Rows.All
import Wide.All
import OpenK.AllK
import Wide.FinOn
import HandS.ForMost
import HandS.ForExc
import HandS.Wide
import HandS.IsInst
import HandS.ExcIs
import HandS.ExcInit
import HandS.Flow
import HandS.Zip
import HandS.TupAny
import HandS.TupLe
import HandS.ListItems
import HandS.Defaults
import HandS.Text
import HandS.SetKeys
import HandS.ExcField
import HandS.StrMore
import HandS.Walk
import HandS.Codes
import KE.KDictZip
import KE.KDictItemsList
import HandS.Iter
import KE.GoesMore
import HandS.TupMul
import HandS.More
import KE.KExcIs
import PyProof.StrOps2
import PyProof.FactsAll.tuple_2
import KE.GoesEnumKw
import HandS.Replace
import PyProof.ToksMono
import HandS.MakeKw
import HandS.Rev
import KE.KDictPairs
import KE.DataFind
import KE.GoesZip
import KE.KeyNested
import PyProof.ListStr
import HandS.TupLen
import HandS.Conv
import PyProof.DictMoreH
import KE.DataMinMax
import HandS.Deep
import PyProof.SumAny
import KE.IntTextLaws
import HandS.IntHex
import HandS.FStr
import HandS.ExcInitHot
import HandS.SuiteRaise
import HandS.Style
import PyProof.Rows.StrOr
import KE.KIntText
import HandS.SetTxtIn
import HandS.Strs
import HandS.WrittenGet
import HandS.Lambda
import HandS.EndTab
import KE.SortKeyHeap
import KE.KSortKey
import HandS.DictTup
import HandS.SortKw
import KE.KNestM
import KE.KTupSum
import HandS.RevRange
import PySem.Challenge.RW_boughkept_k03_polynomials_reckoned
set_option pp.maxSteps 1200
set_option Elab.async false
set_option linter.all false
set_option maxRecDepth 100000
set_option maxHeartbeats 4000000
set_option Elab.async false
set_option linter.all false
set_option maxRecDepth 100000
set_option maxHeartbeats 4000000
/-! Bk1: readings that compute by themselves, over the hand layer. -/
namespace Bk
open PySem PySem.Spec PyProof.Rows L2
/-! ### heaps: what is kept -/
/-- every tracked object stands as it stood -/
def Ex (H H' : Hp) : Prop := ∀ a o, H a = some o → H' a = some o
/-- .. but what stands at l -/
def But (l : Addr) (H H' : Hp) : Prop := ∀ a o, a ≠ l → H a = some o → H' a = some o
/-- the tuples stand -/
def Tk (H H' : Hp) : Prop := ∀ a xs, H a = some (.tup xs) → H' a = some (.tup xs)
theorem Ex.refl (H : Hp) : Ex H H := fun _ _ h => h
theorem Ex.trans {H H1 H2 : Hp} (a : Ex H H1) (b : Ex H1 H2) : Ex H H2 := fun x o h => b x o (a x o h)
theorem Ex.new {H : Hp} {p : Addr} {o : HO} (h : H p = none) : Ex H (upd H p o) := fun a u e => by
  rw [upd_ne (ne_of_none e h)]
  exact e
theorem Ex.at_new {H H' : Hp} {p : Addr} {o : HO} (x : Ex H H') (h : H p = none) : Ex H (upd H' p o) := fun a u e => by
  rw [upd_ne (ne_of_none e h)]
  exact x a u e
theorem Ex.free {H H' : Hp} {p : Addr} (e : Ex H H') (h : H' p = none) : H p = none := by
  cases q : H p with
  | none => rfl
  | some o => rw [e p o q] at h; cases h
theorem Ex.but {H H' : Hp} (l : Addr) (e : Ex H H') : But l H H' := fun a o _ h => e a o h
theorem Ex.of_but {H H' : Hp} {l : Addr} (e : But l H H') (h : H l = none) : Ex H H' := fun a o q => e a o (ne_of_none q h) q
theorem But.refl (l : Addr) (H : Hp) : But l H H := fun _ _ _ h => h
theorem But.trans {l : Addr} {H H1 H2 : Hp} (a : But l H H1) (b : But l H1 H2) : But l H H2 := fun x o n h => b x o n (a x o n h)
theorem But.upd {l : Addr} {H H' : Hp} {o : HO} (a : But l H H') : But l H (upd H' l o) := fun x u n h => by
  rw [upd_ne n]
  exact a x u n h
theorem But.get {l a : Addr} {H H' : Hp} {o u : HO} (b : But l H H') (hl : H l = some u) (h : H a = some o) (d : o ≠ u) : H' a = some o := b a o (ne_of h hl d) h
theorem Ex.tk {H H' : Hp} (e : Ex H H') : Tk H H' := fun a xs h => e a _ h
theorem But.tk {l : Addr} {H H' : Hp} {u : HO} (b : But l H H') (hl : H l = some u) (d : ∀ xs, HO.tup xs ≠ u) : Tk H H' := fun a xs h => b.get hl h (d xs)
theorem But.tkl {l : Addr} {H H' : Hp} {ys : List V} (b : But l H H') (hl : H l = some (.lst ys)) : Tk H H' := b.tk hl fun _ z => nomatch z
theorem Tk.refl (H : Hp) : Tk H H := fun _ _ h => h
theorem Tk.trans {H H1 H2 : Hp} (a : Tk H H1) (b : Tk H1 H2) : Tk H H2 := fun x o h => b x o (a x o h)
theorem sqL {K : PySem.W.Frag} {H : Hp} {a : Addr} {xs : List V} (h : H a = some (.lst xs)) : SqL K H a xs := .inl (.inl h)
theorem sqT {K : PySem.W.Frag} {H : Hp} {a : Addr} {xs : List V} (h : H a = some (.tup xs)) : SqT K H a xs := .inl (.inl h)
theorem Ex.seqL {K : PySem.W.Frag} {H H' : Hp} {a : Addr} {xs : List V} (e : Ex H H') (h : SqL K H a xs) : SqL K H' a xs := by
  rcases h with (h | ⟨o, h⟩) | h
  · exact .inl (.inl (e _ _ h))
  · exact .inl (.inr ⟨o, e _ _ h⟩)
  · exact .inr h
theorem But.seqL {K : PySem.W.Frag} {l : Addr} {H H' : Hp} {a : Addr} {xs : List V} (e : But l H H') (n : a ≠ l) (h : SqL K H a xs) : SqL K H' a xs := by
  rcases h with (h | ⟨o, h⟩) | h
  · exact .inl (.inl (e _ _ n h))
  · exact .inl (.inr ⟨o, e _ _ n h⟩)
  · exact .inr h
/-! ### data: what a value stands for -/
inductive D where
  | non | bl (b : Bool) | int (i : Int) | str (s : Str) | tup (ds : List D) | lst (ds : List D)
mutual
def Rep (H : Hp) : D → V → Prop
  | .non, v => v = .non
  | .bl b, v => v = .bl b
  | .int i, v => v = .int i
  | .str s, v => v = .str s
  | .tup ds, v => ∃ a vs, v = .ref a ∧ H a = some (.tup vs) ∧ Reps H ds vs
  | .lst ds, v => ∃ a vs, v = .ref a ∧ H a = some (.lst vs) ∧ Reps H ds vs
def Reps (H : Hp) : List D → List V → Prop
  | [], vs => vs = []
  | d :: ds, vs => ∃ v r, vs = v :: r ∧ Rep H d v ∧ Reps H ds r
end
mutual
/-- tuples and flat things alone -/
def D.hard : D → Bool
  | .lst _ => false
  | .tup ds => D.hards ds
  | .non => true | .bl _ => true | .int _ => true | .str _ => true
def D.hards : List D → Bool
  | [] => true
  | d :: ds => d.hard && D.hards ds
end
mutual
def D.size : D → Nat
  | .tup ds => 1 + D.sizes ds
  | .lst ds => 1 + D.sizes ds
  | .non => 1 | .bl _ => 1 | .int _ => 1 | .str _ => 1
def D.sizes : List D → Nat
  | [] => 0
  | d :: ds => d.size + D.sizes ds
end
theorem D.size_pos (d : D) : 1 ≤ d.size := by cases d <;> simp only [D.size] <;> omega
mutual
theorem Rep.ex {H H' : Hp} (e : Ex H H') : ∀ {d : D} {v : V}, Rep H d v → Rep H' d v
  | .non, _, h => h
  | .bl _, _, h => h
  | .int _, _, h => h
  | .str _, _, h => h
  | .tup ds, _, h => by
    simp only [Rep] at h ⊢
    obtain ⟨a, vs, r, ha, hr⟩ := h
    exact ⟨a, vs, r, e _ _ ha, Reps.ex e hr⟩
  | .lst ds, _, h => by
    simp only [Rep] at h ⊢
    obtain ⟨a, vs, r, ha, hr⟩ := h
    exact ⟨a, vs, r, e _ _ ha, Reps.ex e hr⟩
theorem Reps.ex {H H' : Hp} (e : Ex H H') : ∀ {ds : List D} {vs : List V}, Reps H ds vs → Reps H' ds vs
  | [], _, h => h
  | d :: ds, _, h => by
    simp only [Reps] at h ⊢
    obtain ⟨v, r, x, h1, h2⟩ := h
    exact ⟨v, r, x, Rep.ex e h1, Reps.ex e h2⟩
end
mutual
theorem Rep.tk {H H' : Hp} (e : Tk H H') : ∀ {d : D} {v : V}, d.hard = true → Rep H d v → Rep H' d v
  | .non, _, _, h => h
  | .bl _, _, _, h => h
  | .int _, _, _, h => h
  | .str _, _, _, h => h
  | .lst _, _, z, _ => by simp [D.hard] at z
  | .tup ds, _, z, h => by
    simp only [D.hard] at z
    simp only [Rep] at h ⊢
    obtain ⟨a, vs, r, ha, hr⟩ := h
    exact ⟨a, vs, r, e _ _ ha, Reps.tk e z hr⟩
theorem Reps.tk {H H' : Hp} (e : Tk H H') : ∀ {ds : List D} {vs : List V}, D.hards ds = true → Reps H ds vs → Reps H' ds vs
  | [], _, _, h => h
  | d :: ds, _, z, h => by
    simp only [D.hards, Bool.and_eq_true] at z
    simp only [Reps] at h ⊢
    obtain ⟨v, r, x, h1, h2⟩ := h
    exact ⟨v, r, x, Rep.tk e z.1 h1, Reps.tk e z.2 h2⟩
end
theorem Reps.len {H : Hp} : ∀ {ds : List D} {vs : List V}, Reps H ds vs → vs.length = ds.length
  | [], _, h => by simp only [Reps] at h; rw [h]; rfl
  | d :: ds, _, h => by
    simp only [Reps] at h
    obtain ⟨v, r, x, _, h2⟩ := h
    rw [x, List.length_cons, List.length_cons, Reps.len h2]
theorem Reps.get {H : Hp} : ∀ {ds : List D} {vs : List V} {i : Nat} {v : V}, Reps H ds vs → vs[i]? = some v → ∃ d, ds[i]? = some d ∧ Rep H d v
  | [], _, i, v, h, e => by simp only [Reps] at h; rw [h] at e; simp at e
  | d :: ds, _, 0, v, h, e => by
    simp only [Reps] at h
    obtain ⟨u, r, x, h1, _⟩ := h
    rw [x] at e
    simp at e
    exact ⟨d, rfl, e ▸ h1⟩
  | d :: ds, _, i + 1, v, h, e => by
    simp only [Reps] at h
    obtain ⟨u, r, x, _, h2⟩ := h
    rw [x] at e
    obtain ⟨d', e', r'⟩ := Reps.get (i := i) h2 (by simpa using e)
    exact ⟨d', by simpa using e', r'⟩
theorem Reps.at {H : Hp} : ∀ {ds : List D} {vs : List V} {i : Nat} {d : D}, Reps H ds vs → ds[i]? = some d → ∃ v, vs[i]? = some v ∧ Rep H d v
  | [], _, i, d, h, e => by simp at e
  | d :: ds, _, 0, d', h, e => by
    simp only [Reps] at h
    obtain ⟨u, r, x, h1, _⟩ := h
    simp at e
    exact ⟨u, by rw [x]; rfl, e ▸ h1⟩
  | d :: ds, _, i + 1, d', h, e => by
    simp only [Reps] at h
    obtain ⟨u, r, x, _, h2⟩ := h
    obtain ⟨v', e', r'⟩ := Reps.at (i := i) h2 (by simpa using e)
    exact ⟨v', by rw [x]; simpa using e', r'⟩
theorem Reps.append {H : Hp} : ∀ {ds es : List D} {vs ws : List V}, Reps H ds vs → Reps H es ws → Reps H (ds ++ es) (vs ++ ws)
  | [], _, _, _, h, g => by simp only [Reps] at h; rw [h]; exact g
  | d :: ds, es, _, ws, h, g => by
    simp only [Reps] at h
    obtain ⟨v, r, x, h1, h2⟩ := h
    rw [x]
    simp only [List.cons_append, Reps]
    exact ⟨v, r ++ ws, rfl, h1, Reps.append h2 g⟩
/-! ### weaker readings -/
section
variable {X : Cx}
theorem pe_imp {e : Expr} {t t' : TE} (h : PE X e t) (w : ∀ σ H Q, t' σ H Q → t σ H Q) : PE X e t' := ⟨fun pins s σ H Q I q => h.run pins s σ H Q I (w σ H Q q)⟩
theorem pi_or {tg e : Expr} {t t' : TI} (h : PI X tg e t) (h' : PI X tg e t') : PI X tg e (fun σ H R => t σ H R ∨ t' σ H R) := ⟨fun pins s σ H R I q => by
  rcases q with q | q
  · exact h.run pins s σ H R I q
  · exact h'.run pins s σ H R I q⟩
/-- the name that stands in the i-th slot -/
def uV (i : Nat) : TE := fun σ H Q => match σ[i]? with
  | some (some v) => Q v H
  | _ => False
theorem uv (i : Nat) {x : Str} {pos : Pos} (hN : X.N[i]? = some x := by rfl) (hv : Vis X.env.scope x := by first | exact Or.inl rfl | exact Or.inr (Or.inl rfl) | exact Or.inr (Or.inr rfl))
    (hd : (x == ("__debug__" : Str)) = false := by decide) (hcd : (x == ("__classdict__" : Str)) = false := by decide) : PE X (.Name x pos) (uV i) :=
  pe_imp (pv i hN hv hd hcd) fun σ H Q h => by
    unfold uV at h
    split at h
    · exact ⟨_, by assumption, h⟩
    · exact h.elim
theorem g_var {σ : L2.St} {i : Nat} {v : V} {H : Hp} {Q : VK} (e : σ[i]? = some (some v)) (q : Q v H) : uV i σ H Q := by
  unfold uV
  rw [e]
  exact q
/-- a value's truth -/
def uTru (K : PySem.W.Frag) (x : V) (H : Hp) (Q : Bool → Hp → Prop) : Prop := match x with
  | .bl k => Q k H
  | .int i => Q (i != 0) H
  | .non => Q false H
  | .str y => y.length ≤ sizeLine ∧ Q ((y.length : Int) != 0) H
  | .ref p => ∃ k, TruV K (.ref p) H k ∧ Q k H
  | _ => False
theorem uTru_of {K : PySem.W.Frag} {x : V} {H : Hp} {Q : Bool → Hp → Prop} (h : uTru K x H Q) : ∃ k, TruV K x H k ∧ Q k H := by
  unfold uTru at h
  split at h
  · exact ⟨_, rfl, h⟩
  · exact ⟨_, rfl, h⟩
  · exact ⟨_, rfl, h⟩
  · exact ⟨_, ⟨h.1, rfl⟩, h.2⟩
  · exact h
  · exact h.elim
/-- a value as a test -/
def uT (K : PySem.W.Frag) (te : TE) : TT := fun σ H Q => te σ H fun x H1 => uTru K x H1 Q
theorem ut {e : Expr} {te : TE} (h : PE X e te) (he : ∀ whole, isTrue e X.env whole = (do let v ← whole; standAt e.pos; holding [v] (truthy v)) := by intro _; rfl) : PT X e (uT X.K te) := by
  refine ⟨fun pins s σ H Q I q => ?_⟩
  refine isTrue_plain (thn (h.run pins s σ H _ I q) fun v s1 z => ?_) (he _)
  obtain ⟨x, H1, I1, r1, q1⟩ := z
  exact tru_ok pins s1 σ H1 x v Q I1 r1 (uTru_of q1)
/-! ### operators -/
def uAdd (K : PySem.W.Frag) : R2 := fun x y H Q => match x, y with
  | .int i, .int j => Q (.int (i + j)) H
  | .str a, .str b => a.length + b.length ≤ sizeLine ∧ Q (.str (a ++ b)) H
  | .ref p, .ref q => rCat (.ref p) (.ref q) H Q ∨ rCatA K (.ref p) (.ref q) H Q
  | _, _ => False
theorem uo_add : OpR X (binaryOp .Add) (uAdd X.K) := by
  intro pins s σ H x y v u Q I rx ry h
  unfold uAdd at h
  split at h
  · exact op_add pins s σ H _ _ v u Q I rx ry ⟨_, _, rfl, rfl, h⟩
  · exact op_add_str pins s σ H _ _ v u Q I rx ry ⟨_, _, rfl, rfl, h⟩
  · rcases h with h | h
    · exact op_cat pins s σ H _ _ v u Q I rx ry h
    · exact op_catA pins s σ H _ _ v u Q I rx ry h
  · exact h.elim
/-- two ints in -/
def uI (C : Int → Int → Prop) (g : Int → Int → V) : R2 := fun x y H Q => match x, y with
  | .int i, .int j => C i j ∧ Q (g i j) H
  | _, _ => False
def uI0 (g : Int → Int → V) : R2 := fun x y H Q => match x, y with
  | .int i, .int j => Q (g i j) H
  | _, _ => False
theorem ui_of {f : Value → Value → Sem Value} {C : Int → Int → Prop} {g : Int → Int → V} (h : OpR X f (rI C g)) : OpR X f (uI C g) := by
  intro pins s σ H x y v u Q I rx ry q
  unfold uI at q
  split at q
  · exact h pins s σ H _ _ v u Q I rx ry ⟨_, _, rfl, rfl, q.1, q.2⟩
  · exact q.elim
theorem ui0_of {f : Value → Value → Sem Value} {g : Int → Int → V} (h : OpR X f (rI0 g)) : OpR X f (uI0 g) := by
  intro pins s σ H x y v u Q I rx ry q
  unfold uI0 at q
  split at q
  · exact h pins s σ H _ _ v u Q I rx ry ⟨_, _, rfl, rfl, q⟩
  · exact q.elim
abbrev uSub : R2 := uI0 fun i j => .int (i - j)
theorem uo_sub : OpR X (binaryOp .Sub) uSub := ui0_of op_sub
def CMm (i j : Int) : Prop := CMul i j ∨ CMulW i j
abbrev uMul : R2 := uI CMm fun i j => .int (i * j)
theorem uo_mul : OpR X (binaryOp .Mult) uMul := by
  refine ui_of (opI fun _ _ _ _ _ _ _ hc q => ?_)
  rcases hc with hc | hc
  · exact mul_int q hc.ok
  · exact mul_int q hc.ok
/-- // by anything but nought below 2 ^ 9000 -/
def CFd (_ j : Int) : Prop := j ≠ 0 ∧ j.natAbs.log2 < 9000
theorem op_fd : OpR X (binaryOp .FloorDiv) (rI CFd fun i j => .int (i.fdiv j)) := opI fun i j _ _ _ _ _ hc q => floordiv_int hc.1 q (.inl (PyProof.noPylong_of_log2 hc.2))
abbrev uFd : R2 := uI CFd fun i j => .int (i.fdiv j)
theorem uo_fd : OpR X (binaryOp .FloorDiv) uFd := ui_of op_fd
abbrev uMod : R2 := uI (fun _ j => j ≠ 0) fun i j => .int (i.fmod j)
theorem uo_mod : OpR X (binaryOp .Mod) uMod := ui_of op_modN
abbrev uPow : R2 := uI CPow fun i j => .int (i ^ j.toNat)
theorem uo_pow : OpR X (binaryOp .Pow) uPow := ui_of op_pow
abbrev uLt : R2 := uI0 fun i j => .bl (decide (i < j))
theorem uo_lt : OpR X (compareOp .Lt) uLt := ui0_of op_lt
abbrev uGt : R2 := uI0 fun i j => .bl (decide (j < i))
theorem uo_gt : OpR X (compareOp .Gt) uGt := ui0_of op_gt
abbrev uGe : R2 := uI0 fun i j => .bl (decide (j ≤ i))
theorem uo_ge : OpR X (compareOp .GtE) uGe := ui0_of op_ge
def uNeg : V → Hp → VK → Prop := fun x H Q => match x with
  | .int i => Q (.int (-i)) H
  | _ => False
/-- x is None, x is not None (y is the None) -/
def uIsN : R2 := fun x y H Q => y = .non ∧ Q (.bl (decide (x = .non))) H
def uNotN : R2 := fun x y H Q => y = .non ∧ Q (.bl (!decide (x = .non))) H
/-! ### len, subscripts -/
def LenR (K : PySem.W.Frag) (H : Hp) (p : Addr) (n : Nat) : Prop := (∃ ys, (SqL K H p ys ∨ SqT K H p ys) ∧ n = ys.length) ∨ ∃ kvs, H p = some (.dK kvs) ∧ n = kvs.length
def uLen (K : PySem.W.Frag) : List V → Hp → VK → Prop := fun xs H Q => match xs with
  | [.str z] => z.length ≤ sizeLine ∧ Q (.int z.length) H
  | [.ref p] => ∃ n : Nat, LenR K H p n ∧ Q (.int n) H
  | _ => False
theorem uk_len : CallR X (.builtin "len") (uLen X.K) := by
  intro pins s σ H xs us Q I r h
  unfold uLen at h
  split at h
  · exact call_len_str pins s σ H _ us Q I r ⟨_, rfl, h.1, h.2⟩
  · obtain ⟨n, h, q⟩ := h
    rcases h with ⟨ys, h, e⟩ | ⟨kvs, h, e⟩
    · subst e
      exact call_len_seq pins s σ H _ us Q I r ⟨_, _, rfl, h, q⟩
    · subst e
      exact call_lenD pins s σ H _ us Q I r ⟨_, _, rfl, h, q⟩
  · exact h.elim
def uIx (K : PySem.W.Frag) : R2 := fun x y H Q => match x, y with
  | .ref p, .int i => ∃ xs v, (SqL K H p xs ∨ SqT K H p xs) ∧ atI xs i = some v ∧ Q v H
  | .str z, .int i => z.length ≤ sizeLine ∧ ∃ c, atI z.cps.toList i = some c ∧ Q (.str ⟨#[c]⟩) H
  | _, _ => False
theorem ux_seq : IxR X (uIx X.K) := by
  intro value slice pins s σ H x y v u Q I rx ry q hs
  unfold uIx at q
  split at q
  · obtain ⟨xs, w, hq, a, q⟩ := q
    refine ix_seq value slice pins s σ H _ _ v u Q I rx ry ?_ hs
    rcases hq with hq | hq
    · exact .inl ⟨_, xs, _, w, rfl, rfl, hq, a, q⟩
    · exact .inr (.inl ⟨_, xs, _, w, rfl, rfl, hq, a, q⟩)
  · obtain ⟨z, c, a, q⟩ := q
    exact ix_seq value slice pins s σ H _ _ v u Q I rx ry (.inr (.inr ⟨_, _, c, rfl, rfl, z, a, q⟩)) hs
  · exact q.elim
/-! ### what a for walks: a list or a tuple -/
def uSeq (K : PySem.W.Frag) (td : TE) : TI := fun σ H R => iList K td σ H R ∨ iTup K td σ H R ∨ iStr td σ H R
theorem ui_seq {tg e : Expr} {td : TE} (h : PE X e td) : PI X tg e (uSeq X.K td) := pi_or (pi_list h) (pi_or (pi_tup h) (pi_str h))
end
end Bk
set_option Elab.async false
set_option linter.all false
set_option maxRecDepth 100000
set_option maxHeartbeats 4000000
/-! Bk2: own errors over any built-in base, made by their own __init__. -/
namespace Bk
open PySem PySem.Spec PyProof.Rows L2
/-- what the written part says of an own error's class: newId, bmB of its built-in base -/
structure OexB (K : PySem.W.Frag) (C : Addr) (newId : String) (bmB : List Value) : Prop where
  cls : ∃ nm q N bs bm sn sub ab col dd k0 k1 k2 k3 k5, K.lookup C = some (excClassObj nm q C N bs bm true sn sub ab col dd k0 k1 k2 k3 k5 newId) ∧ ∀ Y : String, bm.contains (.type Y) = bmB.contains (.type Y)
  exC : PySem.W.subIn K (.ref C) (.type "BaseException") = some true
  tyC : PySem.W.typeIn K (.ref C) = some (.type "type")
  kC : PySem.W.keepIn K (.ref C) = true
section
variable {X : Cx} {pins : List (Addr × Obj)} {σ : L2.St} {H : Hp} {s : Shared} {a C : Addr} {B newId initId : String} {bmB : List Value}
/-- B.__init__(self, ..) over an error that has no dict as yet -/
theorem ginit_ok {A : Around} {E : Value → Shared → Prop} {us : List Value} {Q : Value → Shared → Prop} (F : ExcBaseFacts B newId initId bmB) (T : OexB X.K C newId bmB) (I : Inv X pins σ H s) (e : H a = some (exo a C none)) (hl : us.length ≤ sizeLine)
    (h : ∀ s', Inv X pins σ H s' → Q .none s') : wpAny (model X.prog X.w) A (call (.builtin initId) (.ref a :: us)) Q E s := by
  obtain ⟨nm, q, N, bs, bm, sn, sub, ab, col, dd, k0, k1, k2, k3, k5, hC, hT⟩ := T.cls
  obtain ⟨t1, ho⟩ := exo_at I.hok e
  obtain ⟨hp, g, d, t, os⟩ := s
  refine wpAny_call (PySem.HandSPX.init_base F hT (I.kIn _ _ hC) ho hl fun h' t2 k hx => ?_)
  have J := I.write (t' := t) (x := a) (e := a) (o := exo a C none) (by rw [e]; exact True.intro) (.inl rfl) k ⟨_, hx⟩ (exo_ok hx)
  have eu : upd H a (exo a C none) = H := funext fun b => by
    by_cases hb : b = a
    · rw [hb, upd_same, e]
    · rw [upd_ne hb]
  rw [eu] at J
  exact h _ J
/-- T.__init__(self, ..), T a built-in class of errors, or an own one that has it from there -/
def uXIk (K : PySem.W.Frag) (newId : String) (bmB : List Value) : List V → Hp → VK → Prop := fun vs H1 Q => match vs with
  | .ref a :: ws => ∃ C, ws.length ≤ 1000 ∧ OexB K C newId bmB ∧ H1 a = some (exo a C none) ∧ Q .non H1
  | _ => False
def uXI (K : PySem.W.Frag) (newId : String) (bmB : List Value) (ta : TA) : TE := fun σ H Q => ta σ H fun vs H1 => uXIk K newId bmB vs H1 Q
theorem uXI_end {F0 : ExcBaseFacts B newId initId bmB} {us : List Value} {vs : List V} {Q : VK} (I : Inv X pins σ H s) (r : Vals vs us)
    (h : uXIk X.K newId bmB vs H Q) :
    wpAny (model X.prog X.w) X.A (call (.builtin initId) us) (EP X pins σ Q) X.xe s := by
  unfold uXIk at h
  split at h
  · obtain ⟨C, hl, T, ea, q⟩ := h
    cases r with
    | @cons _ u0 _ ur ra rw' =>
      obtain rfl : u0 = Value.ref _ := ra
      have hlen : ur.length ≤ sizeLine := by
        rw [← Paired.length rw', sizeLine_eq]
        omega
      exact ginit_ok F0 T I ea hlen fun s' J => ⟨.non, H, J, rfl, q⟩
  · exact h.elim
variable {e : Expr} {es : List Expr} {ta : TA} {p1 p2 pos : Pos} {x : Str}
theorem pe_xinitB {T : String} {pl : Sem Bool} (F : ExcBaseFacts B newId initId bmB) (ty : typeOf (.type T) = pure (.type "type")) (ns : Manifest.isStub T = false) (hg : Gl X x) (hm : X.mg x = none) (hv : bootBuiltins x = some (.type T))
    (vV : PySem.W.findCls X.K (.type T) (.type "type") "__init__" = some (.val (.builtin initId))) (hh : PySem.W.handedIn (.builtin initId) = true) (ha : PA X (e :: es) ta) (hn : x ≠ "__name__" := by decide) (hd : (x == ("__debug__" : Str)) = false := by decide)
    (hc : eval (.Call (.Attribute (.Name x p1) "__init__" p2) (e :: es) [] pos) X.env = (do
      let ov ← eval (.Name x p1) X.env
      standAt p2.atName
      let (f, first) ← holding [ov] (getMethod ov "__init__" pl)
      callWith pos f first (backTo pos (starEach (e :: es) X.env)) (backToKw pos (keywordEach [] X.env))) := by rfl)
    (he : starEach (e :: es) X.env = (false, eval e X.env) :: starEach es X.env := by rfl) (hpl : (backTo pos (starEach es X.env)).any (·.1) = false := by rfl) :
    PE X (.Call (.Attribute (.Name x p1) "__init__" p2) (e :: es) [] pos) (uXI X.K newId bmB ta) := by
  refine ⟨fun pins s σ H Q I h => ?_⟩
  refine PySem.W.methodCall_KW (ld_blt I hg hm hv ?_ hn hd) hc
  obtain ⟨m, fr⟩ := I.fr
  refine PySem.W.method_type fr I.ok.mod.kin ty ns vV hh ?_
  show wpAny _ _ (callWith pos (Value.builtin initId) [] (backTo pos (starEach (e :: es) X.env)) []) _ _ _
  refine PyProof.Rows.callWith_method1 (thn (ha.run pos pins _ σ H _ (I.tok _) h) fun us s1 z => ?_) he hpl
  obtain ⟨vs, H1, I1, r1, q⟩ := z
  exact uXI_end (F0 := F) I1 r1 q
/-- the end of C(..) where no field was stored: the error is let go -/
theorem gone_end {H1 : Hp} {hp hp2 h2 : Heap} {g1 g2 : Array GenState} {d1 d2 : Drawn} {t1 t2 : Nat} {os1 os2 : OsState} {Q : XK} (T : Raises X (.ref C)) (I1 : Inv X pins σ H1 ⟨hp, g1, d1, t1, os1⟩)
    (ha : hp.objs.size ≤ a) (k : ∀ b o, hp.get? b = some o → hp2.get? b = some o) (un : Un (frs X.stack) [] (upd H1 a (exo a C none)) (upd H1 a (exo a C none)) hp2 h2) (hok : HOk X.prog X.w (upd H1 a (exo a C none)) h2) (ho : os2 = os1) (hb : AllBare g2)
    (q : Q (.ref C) none H1) : MkP X pins σ Q (.ref a) ⟨h2, g2, d2, t2, os2⟩ := by
  have ea : upd H1 a (exo a C none) a = some (exo a C none) := upd_same
  obtain ⟨t0, hoe⟩ := exo_at hok ea
  have hn : H1 a = none := I1.hok.fresh ha
  obtain ⟨G, g1', g2'⟩ := restrict h2 fun b => decide (b ≠ a)
  have gk : ∀ b, b ≠ a → G.get? b = h2.get? b := fun b hb => g1' b (decide_eq_true hb)
  have ge : G.get? a = none := g2' a (by simp)
  have nha : ∀ {b : Addr} {o : Obj}, hp.get? b = some o → b ≠ a := fun {b o} z => Nat.ne_of_lt (Nat.lt_of_lt_of_le (Heap.lt_size z) ha)
  have up : ∀ {b : Addr}, b ≠ a → H1 b = none → upd H1 a (exo a C none) b = none := fun {b} hb n => by rw [upd_ne hb]; exact n
  have U : Un (frs X.stack) [] H1 H1 hp G := {
    keep := fun b o z n hf hx => (gk b (nha z)).trans (un.keep b o (k b o z) (up (nha z) n) hf hx)
    slot := fun b o z n hf hx => by
      rw [gk b (nha z)]
      exact un.slot b o (k b o z) (up (nha z) n) hf hx
    free := fun b o z n hx => n
    there := fun b o z hx => by
      rw [gk b (nha z)]
      exact un.there b o (k b o z) hx
    tups := fun b xs z => z
    frzs := fun b o v z => z
    tbls := fun b ps z => ⟨#[], by rw [z]; simp⟩ }
  have hok3 : HOk X.prog X.w H1 G := fun b o z => by
    have hba : b ≠ a := ne_of_none z hn
    have z2 : upd H1 a (exo a C none) b = some o := by rw [upd_ne hba]; exact z
    refine (hok b o z2).stay (fun c v hc y => ?_) (fun c hc => ?_) (fun c xs hc => ?_)
    · have hca : c ≠ a := by
        rcases hc with hc | hc
        · rw [hc]; exact hba
        · exact at_ne ea hc exo_own
      rw [gk c hca]
      exact y
    · rw [upd_ne (at_ne ea hc exo_own)] at hc
      exact hc
    · rw [upd_ne (at_ne ea hc exo_tup)] at hc
      exact hc
  have J : Inv X pins σ H1 ⟨G, g2, d2, t2, os2⟩ := I1.call' (ch := []) ho U hok3 hb (fun b z => absurd z (by simp))
  refine ⟨a, _, _, ⟨G, g2, d2, t2, os2⟩, _, .ref C, none, rfl, J, fun b o z => ?_, ge, hoe, ⟨rfl, rfl⟩, rfl, rfl, hn, rfl, hb, T, q⟩
  by_cases hba : b = a
  · have z' : G.get? b = some o := z
    rw [hba, ge] at z'
    cases z'
  · exact (gk b hba).symm.trans z
/-- C(): its own __init__ keeps sp and stores nothing -/
def uMk0 (C : Addr) (sp : Sp) : L2.St → Hp → XK → Prop := fun σ H Q => ∀ a, H a = none → sp [.ref a] (upd H a (exo a C none)) (fun v H2 => v = .non ∧ H2 = upd H a (exo a C none) ∧ Q (.ref C) none H) (fun _ _ _ => False)
theorem pmk_x0 {CX : CXT} {p : Pos} {fI : Addr} {k : Nat} {fd : FuncData} {ps : List Str} {sp : Sp} (F : ExcBaseFacts B newId initId bmB) (T : OexB X.K C newId bmB) (iC : PySem.W.findIn X.K (.ref C) "__init__" = some (some (.ref fI))) (tI : PySem.W.typeIn X.K (.ref fI) = some (.type "function"))
    (F1 : FnOk X.prog X.w X.K X.mg X.base CX k fI fd ps sp) (hr : Room (k + 1) X.A) (hb : Binds X.K fd ps []) (hx : Passes CX X (fun _ _ _ => False)) (hm : X.mg x = some (.ref C)) (hg : Gl X x)
    (hdb : (x == ("__debug__" : Str)) = false := by decide) : PMk X (.Call (.Name x p) [] [] pos) (uMk0 C sp) := by
  intro pins s σ H Q I h
  obtain ⟨nm, q, N, bs, bm, sn, sub, ab, col, dd, k0, k1, k2, k3, k5, hC, hT⟩ := T.cls
  refine wpAny_Call_Name_kw (ld_glob I hg hm ?_ hdb)
  refine PySem.W.callWith_K0 I.kIn T.kC ?_
  obtain ⟨hp, g, dr, tk, os⟩ := s
  have hsz : hp.objs.size ≤ hp.objs.size + 1 := Nat.le_succ _
  have hn : H (hp.objs.size + 1) = none := I.hok.fresh hsz
  have hq := h (hp.objs.size + 1) hn
  have kk : ∀ b o, hp.get? b = some o → ((hp.push (PySem.W.kdv_tup [])).push (PySem.HandSPX.excO C hp.objs.size)).get? b = some o := fun b o e => Heap.get?_push_of_some _ (Heap.get?_push_of_some _ e)
  have hget : ((hp.push (PySem.W.kdv_tup [])).push (PySem.HandSPX.excO C hp.objs.size)).get? (hp.objs.size + 1) = some (PySem.HandSPX.excO C hp.objs.size) := by heap_get
  have I2 : Inv X pins σ (upd H (hp.objs.size + 1) (exo (hp.objs.size + 1) C none)) ⟨(hp.push (PySem.W.kdv_tup [])).push (PySem.HandSPX.excO C hp.objs.size), g, dr, tk, os⟩ :=
    I.laid (t' := tk) (a := hp.objs.size + 1) (o := exo (hp.objs.size + 1) C none) (h' := (hp.push (PySem.W.kdv_tup [])).push (PySem.HandSPX.excO C hp.objs.size)) kk hsz (exo_ok hget)
  have r2 : Vals [V.ref (hp.objs.size + 1)] [Value.ref (hp.objs.size + 1)] := .cons rfl .nil
  have hl : ([Value.ref (hp.objs.size + 1)] ++ []).length = ps.length := (F1.len _ _ _ _ hq).symm.symm
  refine wpAny_call (PySem.HandSPX.call_own F hT (I.kIn _ _ hC) (PySem.W.looks_findIn I.kIn iC) (fun self => PySem.W.bind_fn I.kIn self tI) (Nat.zero_le _)
    (codeAny_mono (F1.run _ X.stack _ _ ⟨[Value.ref (hp.objs.size + 1)], []⟩ [Value.ref (hp.objs.size + 1)] _ _ (fun _ _ _ => False) (hr.make C [] []) (I2.env0.make C [] []) (hb _ [Value.ref (hp.objs.size + 1)] I2.kIn hl) r2 hq) fun r s' hq' => ?_))
  cases r with
  | error er => exact hx pins σ _ _ er s' I2 hq'
  | ok fl =>
    cases fl with
    | ret u =>
      obtain ⟨v, H2, os2, bare2, un2, hok2, rv, ev, eH, q2⟩ := hq'
      subst ev
      subst eH
      obtain ⟨h2, g2, d2, t2, os'⟩ := s'
      exact ⟨rv, gone_end (raises_own T.exC T.tyC) I hsz kk un2 hok2 os2 bare2 q2⟩
    | next => exact False.elim hq'
    | brk => exact False.elim hq'
    | cont => exact False.elim hq'
end
end Bk
set_option Elab.async false
set_option linter.all false
set_option maxRecDepth 100000
set_option maxHeartbeats 4000000
/-! Bk3: list(zip(a, b)) of two tuples or two lists. -/
namespace Bk
open PySem PySem.Spec PyProof.Rows L2
section
variable {prog : Program} {w : World} {A : Around} {E : Value → Shared → Prop} {s : Shared}
/-- k: two tuples, else two lists: an iterator over xs at place i -/
def SIt (h : Heap) (k : Bool) (it l : Addr) (i : Nat) (xs : Array Value) : Prop := match k with
  | true => h.IsTupleIter it l i ∧ h.IsTuple l xs
  | false => h.IsListIter it l i ∧ h.IsList l xs
theorem SIt.keep {h h' : Heap} {k : Bool} {it l : Addr} {i : Nat} {xs : Array Value} (x : SIt h k it l i xs) (ki : ∀ o, h.get? it = some o → h'.get? it = some o) (kl : ∀ o, h.get? l = some o → h'.get? l = some o) : SIt h' k it l i xs := by
  cases k with
  | true =>
    obtain ⟨⟨o, e1, e2⟩, ⟨o', f1, f2⟩⟩ := x
    exact ⟨⟨o, ki o e1, e2⟩, ⟨o', kl o' f1, f2⟩⟩
  | false =>
    obtain ⟨⟨o, e1, e2⟩, ⟨o', f1, f2⟩⟩ := x
    exact ⟨⟨o, ki o e1, e2⟩, ⟨o', kl o' f1, f2⟩⟩
theorem SIt.step {h h' : Heap} {k : Bool} {it l : Addr} {i : Nat} {xs : Array Value} (x : SIt h k it l i xs) (hn : l ≠ it) (ki : match k with | true => h'.IsTupleIter it l (i + 1) | false => h'.IsListIter it l (i + 1)) (kl : Heap.SameBut it h h') : SIt h' k it l (i + 1) xs := by
  cases k with
  | true =>
    obtain ⟨_, ⟨o', f1, f2⟩⟩ := x
    exact ⟨ki, ⟨o', kl.extBut _ _ hn f1, f2⟩⟩
  | false =>
    obtain ⟨_, ⟨o', f1, f2⟩⟩ := x
    exact ⟨ki, ⟨o', kl.extBut _ _ hn f1, f2⟩⟩
theorem sit_item {k : Bool} {it l : Addr} {i : Nat} {xs : Array Value} {x : Value} {Q : Value → Shared → Prop} (hit : SIt s.heap k it l i xs) (hn : l ≠ it) (hx : xs[i]? = some x)
    (hQ : ∀ h', SIt h' k it l (i + 1) xs → Heap.SameBut it s.heap h' → Q x { s with heap := h' }) : wpAny (model prog w) A (Builtin.SmallTypes.nextOf (.ref it)) Q E s := by
  cases k with
  | true => exact RZ.nextOf_tuple_item hit.1 hit.2 hx fun h' a b => hQ h' (hit.step hn a b) b
  | false => exact wpAny_nextOf_list_item hit.1 hit.2 hx fun h' a b => hQ h' (hit.step hn a b) b
theorem sit_end {k : Bool} {it l : Addr} {i : Nat} {xs : Array Value} {Q : Value → Shared → Prop} (hh : A.handled = none) (hit : SIt s.heap k it l i xs) (hx : xs[i]? = none)
    (hE : ∀ h' e, Heap.ExtBut it s.heap h' → (∃ o, h'.get? e = some o ∧ o.cls = .type "StopIteration") → E (.ref e) { s with heap := h' }) : wpAny (model prog w) A (Builtin.SmallTypes.nextOf (.ref it)) Q E s := by
  cases k with
  | true => exact RZ.nextOf_tuple_end hh hit.1 hit.2 hx hE
  | false => exact wpAny_nextOf_list_end hh hit.1 hit.2 hx hE
/-- one turn while the tuple given out before is still there -/
theorem held_item {k : Bool} {z TI TO T i1 i2 l1 l2 : Addr} {f : Bool} {oT : Obj} {i : Nat} {xs ys : Array Value} {x y : Value} {Q : Value → Shared → Prop} (D : ZipApart z TI TO i1 i2 l1 l2)
    (hz : IsZipHeld s.heap z TI TO T f) (hT : s.heap.get? T = some oT) (hTI : IsPair s.heap TI (.ref i1) (.ref i2)) (h1 : SIt s.heap k i1 l1 i xs) (h2 : SIt s.heap k i2 l2 i ys) (hx : xs[i]? = some x) (hy : ys[i]? = some y)
    (hQ : ∀ h', IsZipHeld h' z TI TO T true → SIt h' k i1 l1 (i + 1) xs → SIt h' k i2 l2 (i + 1) ys → IsPair h' s.heap.objs.size x y → h'.objs.size = s.heap.objs.size + 1 →
      (∀ c o, c ≠ z → c ≠ i1 → c ≠ i2 → s.heap.get? c = some o → h'.get? c = some o) → Q (.ref s.heap.objs.size) { s with heap := h' }) :
    wpAny (model prog w) A (Builtin.«zip.__next__» ⟨[.ref z], []⟩) (fun fin s' => ∃ v, fin = .done (.ret v) ∧ Q v s') E s := by
  show wpAny _ _ (field (.ref z) 2 >>= _) _ _ _
  refine wpAny_bind (wpAny_field hz rfl (x := .bool false) rfl ?_)
  show wpAny _ _ (field (.ref z) 3 >>= _) _ _ _
  refine wpAny_bind (wpAny_field hz rfl (x := .ref TI) rfl ?_)
  refine wpAny_bind (wpAny_seqItems hTI rfl ?_)
  show wpAny _ _ (Builtin.SmallTypes.ownedTupleIsFree (.ref z) >>= _) _ _ _
  refine wpAny_bind (wpAny_tupleHeld_zip hz hT fun g1 z1 b1 => ?_)
  simp only [Bool.false_eq_true, if_false]
  refine wpAny_bind ?_
  rw [← Array.forIn_toList]
  simp only [List.forIn_cons, List.forIn_nil]
  refine wpAny_bind (wpAny_bind (wpAny_holding ?_))
  show wpAny _ _ (Builtin.SmallTypes.nextOf (.ref i1) >>= _) _ _ _
  have p1 : SIt g1 k i1 l1 i xs := h1.keep (fun o e => b1.extBut _ _ D.i1z e) fun o e => b1.extBut _ _ D.l1z e
  refine wpAny_bind (sit_item (s := { s with heap := g1 }) p1 D.l1i1 hx fun g2 q1 b2 => wpAny_pure ?_)
  refine wpAny_pure ?_
  refine wpAny_bind (wpAny_bind (wpAny_holding ?_))
  show wpAny _ _ (Builtin.SmallTypes.nextOf (.ref i2) >>= _) _ _ _
  have p2 : SIt g2 k i2 l2 i ys := (h2.keep (fun o e => b1.extBut _ _ D.i2z e) fun o e => b1.extBut _ _ D.l2z e).keep (fun o e => b2.extBut _ _ D.i12.symm e) fun o e => b2.extBut _ _ D.l2i1 e
  refine wpAny_bind (sit_item (s := { s with heap := g2 }) p2 D.l2i2 hy fun g3 q2 b3 => wpAny_pure ?_)
  refine wpAny_pure (wpAny_pure ?_)
  show wpAny _ _ (newTuple [x, y] >>= _) _ _ _
  refine wpAny_bind (wpAny_newTuple ?_)
  have hsz : g3.objs.size = s.heap.objs.size := by rw [b3.1, b2.1, b1.1]
  have z3 : IsZipHeld g3 z TI TO T true := b3.extBut _ _ D.i2z.symm (b2.extBut _ _ D.i1z.symm z1)
  have hk : ∀ c o, c ≠ z → c ≠ i1 → c ≠ i2 → s.heap.get? c = some o → g3.get? c = some o := fun c o c1 c2 c3 e => b3.extBut _ _ c3 (b2.extBut _ _ c2 (b1.extBut _ _ c1 e))
  have q3 : SIt g3 k i1 l1 (i + 1) xs := q1.keep (fun o e => b3.extBut _ _ D.i12 e) fun o e => b3.extBut _ _ D.l1i2 e
  refine wpAny_pure ⟨_, rfl, ?_⟩
  show Q (.ref g3.objs.size) _
  have hp : IsPair (g3.push { cls := .type "tuple", data := .seq #[x, y] }) g3.objs.size x y := Heap.get?_push_size _ rfl
  have z4 : (g3.push { cls := .type "tuple", data := .seq #[x, y] }).objs.size = g3.objs.size + 1 := Heap.size_push ..
  rw [hsz] at hp z4 ⊢
  exact hQ _ (Heap.get?_push_of_some _ z3) (q3.keep (fun o e => Heap.get?_push_of_some _ e) fun o e => Heap.get?_push_of_some _ e) (q2.keep (fun o e => Heap.get?_push_of_some _ e) fun o e => Heap.get?_push_of_some _ e) hp z4
    fun c o c1 c2 c3 e => Heap.get?_push_of_some _ (hk c o c1 c2 c3 e)
theorem held_end {k : Bool} {z TI TO T i1 i2 l1 l2 : Addr} {f : Bool} {oT : Obj} {i : Nat} {xs : Array Value} {Q : Fin → Shared → Prop} (hh : A.handled = none) (D : ZipApart z TI TO i1 i2 l1 l2)
    (hz : IsZipHeld s.heap z TI TO T f) (hT : s.heap.get? T = some oT) (hTI : IsPair s.heap TI (.ref i1) (.ref i2)) (h1 : SIt s.heap k i1 l1 i xs) (hx : xs[i]? = none)
    (hE : ∀ h' e, (∀ c o, c ≠ z → c ≠ i1 → c ≠ i2 → s.heap.get? c = some o → h'.get? c = some o) → (∃ o, h'.get? e = some o ∧ o.cls = .type "StopIteration") → E (.ref e) { s with heap := h' }) :
    wpAny (model prog w) A (Builtin.«zip.__next__» ⟨[.ref z], []⟩) Q E s := by
  show wpAny _ _ (field (.ref z) 2 >>= _) _ _ _
  refine wpAny_bind (wpAny_field hz rfl (x := .bool false) rfl ?_)
  show wpAny _ _ (field (.ref z) 3 >>= _) _ _ _
  refine wpAny_bind (wpAny_field hz rfl (x := .ref TI) rfl ?_)
  refine wpAny_bind (wpAny_seqItems hTI rfl ?_)
  show wpAny _ _ (Builtin.SmallTypes.ownedTupleIsFree (.ref z) >>= _) _ _ _
  refine wpAny_bind (wpAny_tupleHeld_zip hz hT fun g1 z1 b1 => ?_)
  simp only [Bool.false_eq_true, if_false]
  refine wpAny_bind ?_
  rw [← Array.forIn_toList]
  simp only [List.forIn_cons, List.forIn_nil]
  refine wpAny_bind (wpAny_bind (wpAny_holding ?_))
  show wpAny _ _ (Builtin.SmallTypes.nextOf (.ref i1) >>= _) _ _ _
  have p1 : SIt g1 k i1 l1 i xs := h1.keep (fun o e => b1.extBut _ _ D.i1z e) fun o e => b1.extBut _ _ D.l1z e
  refine wpAny_bind (sit_end (s := { s with heap := g1 }) hh p1 hx fun g2 e b2 he => ?_)
  exact hE g2 e (fun c o c1 c2 _ x => b2 _ _ c2 (b1.extBut _ _ c1 x)) he
theorem ne_lo {a b lo : Nat} (g : lo < a) (h : b ≤ lo) : a ≠ b := Nat.ne_of_gt (Nat.lt_of_le_of_lt h g)
/-- the zip at z over two such iterators; the tuple that is out stands above lo -/
structure ZSt (h : Heap) (k : Bool) (lo z TI TO i1 i2 l1 l2 : Addr) (i : Nat) (xs ys : Array Value) : Prop where
  zp : (IsZip h z TI TO .none ∧ IsPair h TO .none .none) ∨ ∃ (T : Addr) (f : Bool), IsZipHeld h z TI TO T f ∧ (∃ o, h.get? T = some o) ∧ lo < T
  ti : IsPair h TI (.ref i1) (.ref i2)
  s1 : SIt h k i1 l1 i xs
  s2 : SIt h k i2 l2 i ys
theorem zs_item {k : Bool} {lo z TI TO i1 i2 l1 l2 : Addr} {i : Nat} {xs ys : Array Value} {x y : Value} {Q : Option Value → Shared → Prop} (D : ZipApart z TI TO i1 i2 l1 l2) (L : z ≤ lo ∧ TO ≤ lo ∧ i1 ≤ lo ∧ i2 ≤ lo) (hlo : lo < s.heap.objs.size) (st : ZSt s.heap k lo z TI TO i1 i2 l1 l2 i xs ys) (hx : xs[i]? = some x) (hy : ys[i]? = some y)
    (hQ : ∀ h', ZSt h' k lo z TI TO i1 i2 l1 l2 (i + 1) xs ys → IsPair h' s.heap.objs.size x y → h'.objs.size = s.heap.objs.size + 1 → (∀ c o, c ≠ z → c ≠ TO → c ≠ i1 → c ≠ i2 → s.heap.get? c = some o → h'.get? c = some o) → Q (some (.ref s.heap.objs.size)) { s with heap := h' }) :
    wpAny (model prog w) A (pyNext (.ref z)) Q E s := by
  obtain ⟨zp, ti, s1, s2⟩ := st
  rcases zp with ⟨hz, hTO⟩ | ⟨T, f, hz, ⟨oT, hT⟩, nT⟩
  · have fin : ∀ h', IsZip h' z TI TO (rawInt s.heap.objs.size) → SIt h' k i1 l1 (i + 1) xs → SIt h' k i2 l2 (i + 1) ys → IsPair h' s.heap.objs.size x y → h'.objs.size = s.heap.objs.size + 1 →
        (∀ c o, c ≠ z → c ≠ TO → c ≠ i1 → c ≠ i2 → s.heap.get? c = some o → h'.get? c = some o) → Q (some (.ref s.heap.objs.size)) { s with heap := h' } := fun h' a1 a3 a4 a5 a6 a7 =>
      hQ h' ⟨.inr ⟨s.heap.objs.size, false, a1, ⟨_, a5⟩, hlo⟩, a7 _ _ D.TIz D.TITO D.TIi1 D.TIi2 ti, a3, a4⟩ a5 a6 a7
    cases k with
    | true =>
      obtain ⟨j1, r1⟩ := s1
      obtain ⟨j2, r2⟩ := s2
      refine RZ.pyNext_zipT_item D hz ti hTO j1 j2 r1 r2 hx hy fun h' a1 a2 a3 a4 a5 a6 a7 => ?_
      obtain ⟨u1, f1, f2⟩ := r1
      obtain ⟨u2, g1, g2⟩ := r2
      exact fin h' a1 ⟨a3, ⟨u1, a7 _ _ D.l1z D.l1TO D.l1i1 D.l1i2 f1, f2⟩⟩ ⟨a4, ⟨u2, a7 _ _ D.l2z D.l2TO D.l2i1 D.l2i2 g1, g2⟩⟩ a5 a6 a7
    | false =>
      obtain ⟨j1, r1⟩ := s1
      obtain ⟨j2, r2⟩ := s2
      refine wpAny_pyNext_zip_item D hz ti hTO j1 j2 r1 r2 hx hy fun h' a1 a2 a3 a4 a5 a6 a7 => ?_
      obtain ⟨u1, f1, f2⟩ := r1
      obtain ⟨u2, g1, g2⟩ := r2
      exact fin h' a1 ⟨a3, ⟨u1, a7 _ _ D.l1z D.l1TO D.l1i1 D.l1i2 f1, f2⟩⟩ ⟨a4, ⟨u2, a7 _ _ D.l2z D.l2TO D.l2i1 D.l2i2 g1, g2⟩⟩ a5 a6 a7
  · have hTy : s.TypeIs (.ref z) "zip" := ⟨_, hz, rfl⟩
    unfold pyNext
    refine wpAny_bind (wpAny_attempt (wpAny_callSpecial?_slot (name := Str.ofString "__next__") hTy F.slot_zip_next
      (wpAny_call_entry F.slot_zip_next hTy F.entry_zip_next
        (held_item D hz hT ti s1 s2 hx hy fun h' a1 a3 a4 a5 a6 a7 => wpAny_pure ?_) (F.args_zip_next_1 _))))
    exact hQ h' ⟨.inr ⟨T, true, a1, ⟨_, a7 _ _ (ne_lo nT L.1) (ne_lo nT L.2.2.1) (ne_lo nT L.2.2.2) hT⟩, nT⟩, a7 _ _ D.TIz D.TIi1 D.TIi2 ti, a3, a4⟩ a5 a6 fun c o c1 _ c3 c4 e => a7 c o c1 c3 c4 e
theorem zs_end {k : Bool} {lo z TI TO i1 i2 l1 l2 : Addr} {i : Nat} {xs ys : Array Value} {Q : Option Value → Shared → Prop} (hh : A.handled = none) (D : ZipApart z TI TO i1 i2 l1 l2) (st : ZSt s.heap k lo z TI TO i1 i2 l1 l2 i xs ys) (hx : xs[i]? = none)
    (hQ : ∀ h', (∀ c o, c ≠ z → c ≠ TO → c ≠ i1 → c ≠ i2 → s.heap.get? c = some o → h'.get? c = some o) → Q none { s with heap := h' }) : wpAny (model prog w) A (pyNext (.ref z)) Q E s := by
  obtain ⟨zp, ti, s1, s2⟩ := st
  rcases zp with ⟨hz, hTO⟩ | ⟨T, f, hz, ⟨oT, hT⟩, nT⟩
  · cases k with
    | true => exact RZ.pyNext_zipT_end hh D hz ti hTO s1.1 s2.1 s1.2 s2.2 (.inl hx) hQ
    | false => exact wpAny_pyNext_zip_end hh D hz ti hTO s1.1 s2.1 s1.2 s2.2 (.inl hx) hQ
  · have hTy : s.TypeIs (.ref z) "zip" := ⟨_, hz, rfl⟩
    unfold pyNext
    refine wpAny_bind (wpAny_attempt (wpAny_callSpecial?_slot (name := Str.ofString "__next__") hTy F.slot_zip_next
      (wpAny_call_entry F.slot_zip_next hTy F.entry_zip_next (held_end hh D hz hT ti s1 hx fun h' e hk he => ?_) (F.args_zip_next_1 _))))
    obtain ⟨o, ho, hc⟩ := he
    refine wpAny_bind (wpAny_isInstance (T := "StopIteration") (b := true) ⟨o, ho, hc⟩ isSubtype_stop ?_)
    exact wpAny_pure (hQ _ fun c o c1 _ c3 c4 e => hk c o c1 c3 c4 e)
/-- the addresses as hold the pairs of xs and ys, in order, as tuples; they lie above lo and rise -/
structure Prs (xs ys : Array Value) (lo : Addr) (h : Heap) (as : List Addr) : Prop where
  rise : as.Pairwise (· < ·)
  above : ∀ a ∈ as, lo < a
  pairs : ∀ (j : Nat) (a : Addr), as[j]? = some a → ∃ x y, xs[j]? = some x ∧ ys[j]? = some y ∧ IsPair h a x y
theorem Prs.there {xs ys : Array Value} {lo : Addr} {h : Heap} {as : List Addr} (g : Prs xs ys lo h as) {a : Addr} (ha : a ∈ as) : a < h.objs.size := by
  obtain ⟨j, hj⟩ := List.mem_iff_getElem?.mp ha
  obtain ⟨_, _, _, _, e⟩ := g.pairs j a hj
  exact Heap.lt_size e
theorem Prs.low {xs ys : Array Value} {lo lo' : Addr} {h : Heap} {as : List Addr} (g : Prs xs ys lo h as) (hl : lo' ≤ lo) : Prs xs ys lo' h as := ⟨g.rise, fun a ha => Nat.lt_of_le_of_lt hl (g.above a ha), g.pairs⟩
theorem zip_lens : typeLookup (.type "zip") "__len__" = pure none := am_miss_of_fast (by decide +kernel)
theorem zip_hints : typeLookup (.type "zip") "__length_hint__" = pure none := am_miss_of_fast (by decide +kernel)
section
variable {R : Result → Shared → Prop} {k : Bool} {xs ys : Array Value}
theorem ZSt.keep {h h' : Heap} {lo z TI TO i1 i2 l1 l2 : Addr} {i : Nat} (x : ZSt h k lo z TI TO i1 i2 l1 l2 i xs ys) (S : Addr) (hk : ∀ b o, b ≠ S → h.get? b = some o → h'.get? b = some o) (n : S ≠ z ∧ S ≠ TI ∧ S ≠ TO ∧ S ≠ i1 ∧ S ≠ i2 ∧ S ≠ l1 ∧ S ≠ l2) (hS : S ≤ lo) : ZSt h' k lo z TI TO i1 i2 l1 l2 i xs ys := by
  obtain ⟨n1, n2, n3, n4, n5, n6, n7⟩ := n
  obtain ⟨zp, ti, s1, s2⟩ := x
  refine ⟨?_, hk _ _ n2.symm ti, s1.keep (fun o e => hk _ _ n4.symm e) (fun o e => hk _ _ n6.symm e), s2.keep (fun o e => hk _ _ n5.symm e) fun o e => hk _ _ n7.symm e⟩
  rcases zp with ⟨a, b⟩ | ⟨T, f, a, ⟨o, b⟩, c⟩
  · exact .inl ⟨hk _ _ n1.symm a, hk _ _ n3.symm b⟩
  · exact .inr ⟨T, f, hk _ _ n1.symm a, ⟨o, hk _ _ (ne_lo c hS) b⟩, c⟩
theorem zl_loop {S lo z TI TO i1 i2 l1 l2 : Addr} (hh : A.handled = none) (D : ZipApart z TI TO i1 i2 l1 l2) (n : S ≠ z ∧ S ≠ TI ∧ S ≠ TO ∧ S ≠ i1 ∧ S ≠ i2 ∧ S ≠ l1 ∧ S ≠ l2) (hSl : S ≤ lo) (L : z ≤ lo ∧ TO ≤ lo ∧ i1 ≤ lo ∧ i2 ≤ lo) (hsz : ys.size = xs.size) (hn : xs.size ≤ sizeLine) (res : Value) {h1 : Heap}
    (hR : ∀ h' tk acc c as, (∀ b o, b ≠ S → b ≠ z → b ≠ TO → b ≠ i1 → b ≠ i2 → h1.get? b = some o → h'.get? b = some o) → h'.get? S = some { cls := .type "list", dict := none, data := .seq acc c, slots := #[] } → as.length = xs.size → Prs xs ys lo h' as →
      acc.toList = as.map Value.ref → R (.ok (.ret res)) { s with heap := h', toks := tk }) :
    ∀ (m i : Nat) (h : Heap) (tk c : Nat) (acc : Array Value) (as : List Addr), xs.size - i = m → i ≤ xs.size → ZSt h k lo z TI TO i1 i2 l1 l2 i xs ys → (∀ b o, b ≠ S → b ≠ z → b ≠ TO → b ≠ i1 → b ≠ i2 → h1.get? b = some o → h.get? b = some o) →
      h.get? S = some { cls := .type "list", dict := none, data := .seq acc c, slots := #[] } → acc.toList = as.map Value.ref → as.length = i → Prs xs ys lo h as → lo < h.objs.size →
      codeAny (model prog w) A (.builtin "list.extend.loop" ⟨[.ref S, .ref z, res], []⟩) R { s with heap := h, toks := tk } := by
  intro m
  induction m with
  | zero =>
    intro i h tk c acc as hm hi st hkeep hS hacc hal hG hls
    have hin : i = xs.size := by omega
    refine codeAny_builtin PySem.F.entry_extend_loop ?_
    rw [Around.under_plainId PySem.F.plain_extend_loop _]
    show wpAny _ A.in1 (pyNext (.ref z) >>= _) _ _ _
    refine wpAny_bind (zs_end (s := { s with heap := h, toks := tk }) (A := A.in1) hh D st (by rw [hin]; simp) fun h' he => ?_)
    refine wpAny_pure (hR h' tk acc c as (fun b o q1 q2 q3 q4 q5 e => he b o q2 q3 q4 q5 (hkeep b o q1 q2 q3 q4 q5 e)) (he S _ n.1 n.2.2.1 n.2.2.2.1 n.2.2.2.2.1 hS) (by omega) ⟨hG.rise, hG.above, fun j a hj => ?_⟩ hacc)
    obtain ⟨x, y, e1, e2, e3⟩ := hG.pairs j a hj
    have ga := hG.above a (List.mem_of_getElem? hj)
    exact ⟨x, y, e1, e2, he a _ (ne_lo ga L.1) (ne_lo ga L.2.1) (ne_lo ga L.2.2.1) (ne_lo ga L.2.2.2) e3⟩
  | succ m ih =>
    intro i h tk c acc as hm hi st hkeep hS hacc hal hG hls
    have hlt : i < xs.size := by omega
    have hlt2 : i < ys.size := by omega
    have hac : acc.size = i := by rw [← Array.length_toList, hacc, List.length_map, hal]
    refine codeAny_builtin PySem.F.entry_extend_loop ?_
    rw [Around.under_plainId PySem.F.plain_extend_loop _]
    show wpAny _ A.in1 (pyNext (.ref z) >>= _) _ _ _
    refine wpAny_bind (zs_item (s := { s with heap := h, toks := tk }) D L hls st (Array.getElem?_eq_getElem hlt) (Array.getElem?_eq_getElem hlt2) fun h' st' ht hz' hkp => ?_)
    dsimp only at ht hz' hkp ⊢
    have hS' := hkp S _ n.1 n.2.2.1 n.2.2.2.1 n.2.2.2.2.1 hS
    have up : ∀ b o, b ≠ S → h'.get? b = some o → (h'.update S (Obj.mapSeq (·.push (Value.ref h.objs.size)))).get? b = some o := fun b o hb e => (Heap.get?_update_other _ _ (Ne.symm hb)).trans e
    have hSlt : S < h.objs.size := Heap.lt_size hS
    show wpAny _ A.in1 (updateSeq S (·.push (Value.ref h.objs.size)) >>= _) _ _ _
    refine wpAny_bind ?_
    refine wpAny_updateSeq hS' rfl (wpAny_pure ⟨plainId_quiet PySem.F.plain_extend_loop _, ih (i + 1) _ tk _ (acc.push (Value.ref h.objs.size)) (as ++ [h.objs.size]) (by omega) hlt (st'.keep S up n hSl)
      (fun b o q1 q2 q3 q4 q5 e => up b o q1 (hkp b o q2 q3 q4 q5 (hkeep b o q1 q2 q3 q4 q5 e))) (Heap.get?_update_self _ hS' rfl) (by rw [Array.toList_push, hacc, List.map_append]; rfl) (by rw [List.length_append, hal]; rfl) ⟨?_, ?_, ?_⟩ ?_⟩) (by rw [hac]; omega) (by show (acc.push (Value.ref h.objs.size)).size ≤ sizeLine + 1; rw [Array.size_push, hac]; omega)
    · refine List.pairwise_append.mpr ⟨hG.rise, List.pairwise_singleton _ _, fun a ha b hb => ?_⟩
      rw [List.mem_singleton.mp hb]
      exact hG.there ha
    · intro a ha
      rcases List.mem_append.mp ha with ha | ha
      · exact hG.above a ha
      · rw [List.mem_singleton.mp ha]; exact hls
    · intro j b hj
      rcases Nat.lt_trichotomy j as.length with q | q | q
      · rw [List.getElem?_append_left q] at hj
        obtain ⟨x, y, e1, e2, e3⟩ := hG.pairs j b hj
        have hb := hG.above b (List.mem_of_getElem? hj)
        exact ⟨x, y, e1, e2, up b _ (ne_lo hb hSl) (hkp b _ (ne_lo hb L.1) (ne_lo hb L.2.1) (ne_lo hb L.2.2.1) (ne_lo hb L.2.2.2) e3)⟩
      · subst q
        have hb : h.objs.size = b := by simpa using hj
        subst hb
        exact ⟨_, _, by rw [hal]; exact Array.getElem?_eq_getElem hlt, by rw [hal]; exact Array.getElem?_eq_getElem hlt2, up _ _ (Nat.ne_of_gt hSlt) ht⟩
      · have hnone : (as ++ [h.objs.size])[j]? = none := List.getElem?_eq_none (by rw [List.length_append, List.length_singleton]; omega)
        rw [hnone] at hj; cases hj
    · have e : (h'.update S (Obj.mapSeq (·.push (Value.ref h.objs.size)))).get? h.objs.size = _ := up _ _ (Nat.ne_of_gt hSlt) ht
      exact Nat.lt_trans hls (Heap.lt_size e)
theorem zip_hint {z TI TO : Addr} {f0 : Value} {Q : Bool → Shared → Prop} (hz : IsZip s.heap z TI TO f0) (h : Q true s) : wpAny (model prog w) A (Builtin.List.listLengthHint (.ref z)) Q E s := by
  have hT : s.TypeIs (.ref z) "zip" := ⟨_, hz, rfl⟩
  unfold Builtin.List.listLengthHint
  refine wpAny_bind (wpAny_specialOf hT zip_lens ?_)
  show wpAny _ _ (specialOf (Value.ref z) (Str.ofString "__length_hint__") >>= _) _ _ _
  refine wpAny_bind (wpAny_specialOf hT zip_hints ?_)
  exact wpAny_pure h
theorem zl_extend {S z TI TO i1 i2 l1 l2 : Addr} {lo c0 : Nat} (hh : A.handled = none) (D : ZipApart z TI TO i1 i2 l1 l2) (n : S ≠ z ∧ S ≠ TI ∧ S ≠ TO ∧ S ≠ i1 ∧ S ≠ i2 ∧ S ≠ l1 ∧ S ≠ l2) (hSl : S ≤ lo) (L : z ≤ lo ∧ TO ≤ lo ∧ i1 ≤ lo ∧ i2 ≤ lo) (hls : lo < s.heap.objs.size) (hsz : ys.size = xs.size) (hn : xs.size ≤ sizeLine) (res : Value)
    (st : ZSt s.heap k lo z TI TO i1 i2 l1 l2 0 xs ys) (hz0 : IsZip s.heap z TI TO .none) (hS : s.heap.get? S = some { cls := .type "list", data := .seq #[] c0 })
    (hR : ∀ h' tk acc c as, (∀ b o, b ≠ S → b ≠ z → b ≠ TO → b ≠ i1 → b ≠ i2 → s.heap.get? b = some o → h'.get? b = some o) → h'.get? S = some { cls := .type "list", dict := none, data := .seq acc c, slots := #[] } → as.length = xs.size → Prs xs ys lo h' as →
      acc.toList = as.map Value.ref → R (.ok (.ret res)) { s with heap := h', toks := tk }) :
    wpAny (model prog w) A.in1 (Builtin.List.listExtendWith (.ref S) (.ref z) res)
      (fun fin s' => match fin with | .done f => R (.ok f) s' | .again c' => c'.quiet = true ∧ codeAny (model prog w) A c' R s') (fun e s' => R (.error e) s') s := by
  have hT : s.TypeIs (.ref z) "zip" := ⟨_, hz0, rfl⟩
  unfold Builtin.List.listExtendWith
  refine wpAny_bind (wpAny_typeOf (T := "zip") hT ?_)
  have e1 : Builtin.List.listSameRef (.ref S) (.ref z) = false := by simp [Builtin.List.listSameRef, n.1]
  have e2 : (Value.type "zip" == Value.type "list") = false := by decide
  have e3 : (Value.type "zip" == Value.type "tuple") = false := by decide
  simp only [e1, e2, e3, Bool.or_false, Bool.false_eq_true, if_false]
  refine wpAny_bind (wpAny_pyIter_zip hz0 ?_)
  refine wpAny_bind (wpAny_holding (zip_hint hz0 ?_))
  simp only [Bool.true_or, if_true]
  refine wpAny_bind (wpAny_rule ?_)
  refine wpAny_bind ?_
  show wpAny _ _ (updateSeq S (·.push .none) >>= fun _ => updateSeq S (·.pop)) _ _ _
  refine wpAny_bind (wpAny_updateSeq hS rfl ?_)
  have hS2 := Heap.get?_update_self (Obj.mapSeq (·.push Value.none)) hS rfl
  refine wpAny_updateSeq (hz := by seq_fits) hS2 rfl ?_
  have hS3 := Heap.get?_update_self (Obj.mapSeq (·.pop)) hS2 rfl
  have oth : ∀ b o, b ≠ S → s.heap.get? b = some o → ((s.heap.update S (Obj.mapSeq (·.push Value.none))).update S (Obj.mapSeq (·.pop))).get? b = some o :=
    fun b o hb e => (Heap.get?_update_other _ _ (Ne.symm hb)).trans ((Heap.get?_update_other _ _ (Ne.symm hb)).trans e)
  refine wpAny_pure ⟨plainId_quiet PySem.F.plain_extend_loop _, ?_⟩
  refine zl_loop (s := s) (k := k) (h1 := s.heap) hh D n hSl L hsz hn res hR xs.size 0 _ s.toks _ #[] [] (Nat.sub_zero _) (Nat.zero_le _) (st.keep S oth n hSl) (fun b o q1 _ _ _ _ e => oth b o q1 e) hS3 rfl rfl
    ⟨List.Pairwise.nil, (fun _ ha => nomatch ha), (fun j a hj => by simp at hj)⟩ ?_
  rw [Heap.size_update, Heap.size_update]
  exact hls
theorem zl_call {z TI TO i1 i2 l1 l2 : Addr} {Q : Value → Shared → Prop} (hh : A.handled = none) (D : ZipApart z TI TO i1 i2 l1 l2) (U : z < s.heap.objs.size ∧ TI < s.heap.objs.size ∧ TO < s.heap.objs.size ∧ i1 < s.heap.objs.size ∧ i2 < s.heap.objs.size ∧ l1 < s.heap.objs.size ∧ l2 < s.heap.objs.size)
    (hsz : ys.size = xs.size) (hn : xs.size ≤ sizeLine) (st : ∀ lo, ZSt s.heap k lo z TI TO i1 i2 l1 l2 0 xs ys) (hz0 : IsZip s.heap z TI TO .none)
    (hQ : ∀ h' tk acc c as, (∀ b o, b ≠ z → b ≠ TO → b ≠ i1 → b ≠ i2 → s.heap.get? b = some o → h'.get? b = some o) → h'.get? s.heap.objs.size = some { cls := .type "list", dict := none, data := .seq acc c, slots := #[] } → as.length = xs.size → Prs xs ys s.heap.objs.size h' as →
      acc.toList = as.map Value.ref → Q (.ref s.heap.objs.size) { s with heap := h', toks := tk }) :
    wpAny (model prog w) A (call (.type "list") [.ref z]) Q E s := by
  refine callType_codes (Q₁ := fun obj s₁ => obj = .ref s.heap.objs.size ∧ s₁ = { s with heap := s.heap.push { cls := .type "list", data := .seq #[] } }) PySem.F.called_list (PySem.F.typeCall_list_1 _) PySem.F.entry_list_init
    (code_list_new _ ⟨rfl, rfl⟩) fun obj s₁ h₁ => ?_
  obtain ⟨rfl, rfl⟩ := h₁
  have hS : (s.heap.push { cls := .type "list", data := .seq #[] }).get? s.heap.objs.size = some { cls := .type "list", data := .seq #[] } := Heap.get?_push_size _ rfl
  refine ⟨⟨_, hS, rfl⟩, PySem.F.args_list_init_2 _ _, ?_⟩
  obtain ⟨u1, u2, u3, u4, u5, u6, u7⟩ := U
  show wpAny _ _ (do let old ← Builtin.List.listItems (.ref s.heap.objs.size); Builtin.List.listUpdate (.ref s.heap.objs.size) (fun _ => #[]); letGo old.toList.reverse; Builtin.List.listExtendWith (.ref s.heap.objs.size) (.ref z) .none) _ _ _
  refine wpAny_bind ?_
  unfold Builtin.List.listItems
  refine wpAny_bind (wpAny_seqItems hS rfl (wpAny_pure ?_))
  show wpAny _ _ (updateSeq s.heap.objs.size (fun _ => #[]) >>= fun _ => letGo (#[] : Array Value).toList.reverse >>= fun _ => Builtin.List.listExtendWith (.ref s.heap.objs.size) (.ref z) .none) _ _ _
  refine wpAny_bind (wpAny_updateSeq hS rfl ?_)
  have hS2 := Heap.get?_update_self (Obj.mapSeq (fun _ => (#[] : Array Value))) hS rfl
  have oth : ∀ b o, b ≠ s.heap.objs.size → s.heap.get? b = some o → ((s.heap.push { cls := .type "list", data := .seq #[] }).update s.heap.objs.size (Obj.mapSeq (fun _ => (#[] : Array Value)))).get? b = some o :=
    fun b o hb e => (Heap.get?_update_other _ _ (Ne.symm hb)).trans (Heap.get?_push_of_some _ e)
  refine wpAny_bind (wpAny_letGo ?_)
  have nn : s.heap.objs.size ≠ z ∧ s.heap.objs.size ≠ TI ∧ s.heap.objs.size ≠ TO ∧ s.heap.objs.size ≠ i1 ∧ s.heap.objs.size ≠ i2 ∧ s.heap.objs.size ≠ l1 ∧ s.heap.objs.size ≠ l2 :=
    ⟨Nat.ne_of_gt u1, Nat.ne_of_gt u2, Nat.ne_of_gt u3, Nat.ne_of_gt u4, Nat.ne_of_gt u5, Nat.ne_of_gt u6, Nat.ne_of_gt u7⟩
  refine zl_extend (s := { s with heap := (s.heap.push { cls := .type "list", data := .seq #[] }).update s.heap.objs.size (Obj.mapSeq (fun _ => (#[] : Array Value))) }) (prog := prog) (w := w) (A := A.in1) (R := wants (fun r s₂ => r = Value.none ∧ Q (Value.ref s.heap.objs.size) s₂) E) (k := k) (lo := s.heap.objs.size) hh D nn (Nat.le_refl _) ⟨Nat.le_of_lt u1, Nat.le_of_lt u3, Nat.le_of_lt u4, Nat.le_of_lt u5⟩ ?_ hsz hn .none ((st _).keep s.heap.objs.size oth nn (Nat.le_refl _)) (oth _ _ nn.1.symm hz0) hS2 (fun h' tk acc c as hk hS' hl hG hacc => ?_)
  · show s.heap.objs.size < (Heap.update _ _ _).objs.size
    rw [Heap.size_update, Heap.size_push]
    exact Nat.lt_succ_self _
  · exact ⟨rfl, hQ h' tk acc c as (fun b o q2 q3 q4 q5 e => hk b o (Nat.ne_of_lt (Heap.lt_size e)) q2 q3 q4 q5 (oth b o (Nat.ne_of_lt (Heap.lt_size e)) e)) hS' hl hG hacc⟩
end
end
/-! ### over the layer -/
/-- at ts stand the pairs of xs and ys -/
def Prz (H : Hp) (ts : List Addr) (xs ys : List V) : Prop := ts.length = xs.length ∧ ∀ (j : Nat) (t : Addr), ts[j]? = some t → ∃ x y, xs[j]? = some x ∧ ys[j]? = some y ∧ H t = some (.tup [x, y])
/-- list(zip(a, b)) -/
def uLZ (K : PySem.W.Frag) (ta : TA) : TE := fun σ H Q => ta σ H fun vs H1 => ∃ a b xs ys, vs = [.ref a, .ref b] ∧ xs.length = ys.length ∧ ((SqT K H1 a xs ∧ SqT K H1 b ys) ∨ (SqL K H1 a xs ∧ SqL K H1 b ys)) ∧
  ∀ (H' : Hp) (p : Addr) (ts : List Addr), Ex H1 H' → H1 p = none → (∀ t ∈ ts, H1 t = none) → p ∉ ts → H' p = some (.lst (ts.map V.ref)) → Prz H' ts xs ys → Q (.ref p) H'
section
variable {X : Cx} {pins : List (Addr × Obj)} {σ : L2.St} {H : Hp} {s : Shared}
/-- the tuples tracked at their addresses -/
def layT : Hp → List Addr → List V → List V → Hp
  | H, a :: as, x :: xs, y :: ys => layT (upd H a (.tup [x, y])) as xs ys
  | H, _, _, _ => H
theorem layT_off {b : Addr} : ∀ (as : List Addr) (xs ys : List V) (H : Hp), b ∉ as → layT H as xs ys b = H b
  | [], _, _, _, _ => rfl
  | _ :: _, [], _, _, _ => rfl
  | _ :: _, _ :: _, [], _, _ => rfl
  | a :: as, x :: xs, y :: ys, H, h => by
    show layT (upd H a (.tup [x, y])) as xs ys b = H b
    rw [layT_off as xs ys _ (fun z => h (List.mem_cons_of_mem _ z)), upd_ne (fun z => h (by rw [z]; exact List.mem_cons_self))]
theorem layT_at : ∀ (as : List Addr) (xs ys : List V) (H : Hp), as.length = xs.length → xs.length = ys.length → as.Nodup → Prz (layT H as xs ys) as xs ys
  | [], [], _, _, _, _, _ => ⟨rfl, fun j t h => by simp at h⟩
  | [], _ :: _, _, _, h, _, _ => by cases h
  | _ :: _, [], _, _, h, _, _ => by cases h
  | _ :: _, _ :: _, [], _, _, h, _ => by cases h
  | a :: as, x :: xs, y :: ys, H, h, h2, hn => by
    obtain ⟨n1, n2⟩ := List.nodup_cons.mp hn
    obtain ⟨l, ih⟩ := layT_at as xs ys (upd H a (.tup [x, y])) (Nat.succ.inj h) (Nat.succ.inj h2) n2
    refine ⟨h, fun j t e => ?_⟩
    show ∃ u v, _ ∧ _ ∧ layT (upd H a (.tup [x, y])) as xs ys t = _
    cases j with
    | zero =>
      simp at e
      subst e
      refine ⟨x, y, rfl, rfl, ?_⟩
      rw [layT_off as xs ys _ n1, upd_same]
    | succ j =>
      obtain ⟨u, v, e1, e2, e3⟩ := ih j t (by simpa using e)
      exact ⟨u, v, by simpa using e1, by simpa using e2, e3⟩
theorem zl_laid {h' : Heap} {tk : Nat} {xs ys : List V} {us vs : List Value} {acc : Array Value} {c : Nat} {as : List Addr} {S : Addr} (I : Inv X pins σ H s) (hz : xs.length ≤ sizeLine) (lxy : xs.length = ys.length) (ru : Vals xs us) (rv : Vals ys vs) (hS0 : s.heap.objs.size ≤ S)
    (hk : ∀ b o, s.heap.get? b = some o → h'.get? b = some o) (hS : h'.get? S = some { cls := .type "list", dict := none, data := .seq acc c, slots := #[] }) (hl : as.length = xs.length) (hG : Prs us.toArray vs.toArray S h' as) (hacc : acc.toList = as.map Value.ref) :
    ∃ H' : Hp, Ex H H' ∧ H S = none ∧ (∀ t ∈ as, H t = none) ∧ S ∉ as ∧ H' S = some (.lst (as.map V.ref)) ∧ Prz H' as xs ys ∧ Inv X pins σ H' { s with heap := h', toks := tk } := by
  have hSn : S ∉ as := fun z => Nat.lt_irrefl _ (hG.above _ z)
  have nd : as.Nodup := List.Pairwise.imp (fun {a b} (h : a < b) => Nat.ne_of_lt h) hG.rise
  have new : ∀ t ∈ as, H t = none := fun t ht => I.hok.fresh (Nat.le_trans hS0 (Nat.le_of_lt (hG.above t ht)))
  have newS : H S = none := I.hok.fresh hS0
  have atP := layT_at as xs ys (upd H S (.lst (as.map V.ref))) hl lxy nd
  have off : ∀ b, b ∉ as → b ≠ S → layT (upd H S (.lst (as.map V.ref))) as xs ys b = H b := fun b h1 h2 => by rw [layT_off as xs ys _ h1, upd_ne h2]
  have low : ∀ b o, s.heap.get? b = some o → b ∉ as ∧ b ≠ S := fun b o e => ⟨fun z => absurd (Heap.lt_size e) (Nat.not_lt.mpr (Nat.le_trans hS0 (Nat.le_of_lt (hG.above b z)))), Nat.ne_of_lt (Nat.lt_of_lt_of_le (Heap.lt_size e) hS0)⟩
  have kp : Ex H (layT (upd H S (.lst (as.map V.ref))) as xs ys) := fun b u e => by
    rw [off b (fun z => by rw [new b z] at e; cases e) (fun z => by rw [z, newS] at e; cases e)]
    exact e
  have eS : layT (upd H S (.lst (as.map V.ref))) as xs ys S = some (.lst (as.map V.ref)) := by rw [layT_off as xs ys _ hSn, upd_same]
  refine ⟨layT (upd H S (.lst (as.map V.ref))) as xs ys, kp, newS, new, hSn, eS, atP, ?_⟩
  refine I.call' (ch := []) rfl ⟨fun b o q _ _ _ => hk b o q, fun b o q _ _ _ => ⟨o.slots, hk b o q⟩, fun b o q n _ => ?_, fun b o q _ => ⟨o, hk b o q⟩, fun b xs q => kp b _ q, fun b o u q => kp b _ q, fun b ps q => ⟨#[], by rw [kp b _ q]; simp⟩⟩ (fun b u q => ?_) I.bare fun b z => by simp at z
  · obtain ⟨z1, z2⟩ := low b o q
    rw [off b z1 z2]
    exact n
  · by_cases hb : b ∈ as
    · obtain ⟨j, hj⟩ := List.mem_iff_getElem?.mp hb
      obtain ⟨x, y, e1, e2, e3⟩ := atP.2 j b hj
      rw [e3] at q
      cases q
      obtain ⟨x', y', f1, f2, f3⟩ := hG.pairs j b hj
      obtain ⟨u1, g1, r1⟩ := Vals.get ru e1
      obtain ⟨u2, g2, r2⟩ := Vals.get rv e2
      have a1 : x' = u1 := by
        rw [List.getElem?_toArray, g1] at f1
        exact (Option.some.inj f1).symm
      have a2 : y' = u2 := by
        rw [List.getElem?_toArray, g2] at f2
        exact (Option.some.inj f2).symm
      subst a1 a2
      exact ⟨by show 2 ≤ sizeLine; decide, [x', y'], .cons r1 (.cons r2 .nil), ⟨_, f3, rfl, _, rfl⟩⟩
    · by_cases hb2 : b = S
      · subst hb2
        rw [eS] at q
        cases q
        refine ⟨by rw [List.length_map, hl]; exact hz, acc.toList, c, by rw [hacc]; exact LiI.vals_refs as, ?_⟩
        rw [Array.toArray_toList]
        exact hS
      · rw [off b hb hb2] at q
        exact (I.hok b u q).stay (fun d v _ y => hk d v y) (fun d y => kp d _ y) fun d xs y => kp d _ y
theorem lt_ne {b n : Nat} (h : b < n) (j : Nat) : b ≠ n + j := Nat.ne_of_lt (Nat.lt_of_lt_of_le h (Nat.le_add_right _ _))
theorem lz7 {a b n : Nat} (la : a < n) (lb : b < n) : n + 4 < n + 5 ∧ n + 2 < n + 5 ∧ n + 3 < n + 5 ∧ n < n + 5 ∧ n + 1 < n + 5 ∧ a < n + 5 ∧ b < n + 5 := by omega
theorem pe_listZip {e e2 : Expr} {ta : TA} {p p2 pos pos2 : Pos} (hc : X.calm = true) (hg : Gl X "list") (hm : X.mg "list" = none) (hg2 : Gl X "zip") (hm2 : X.mg "zip" = none) (ha : PA X [e, e2] ta)
    (hs : starEach [e, e2] X.env = (false, eval e X.env) :: starEach [e2] X.env := by rfl) (hpl : (backTo pos2 (starEach [e2] X.env)).any (·.1) = false := by rfl)
    (hs1 : starEach [.Call (.Name "zip" p2) [e, e2] [] pos2] X.env = (false, eval (.Call (.Name "zip" p2) [e, e2] [] pos2) X.env) :: starEach [] X.env := by rfl) :
    PE X (.Call (.Name "list" p) [.Call (.Name "zip" p2) [e, e2] [] pos2] [] pos) (uLZ X.K ta) := by
  refine ⟨fun pins s σ H Q I h => ?_⟩
  refine wpAny_Call_Name_kw (ld_blt (u := .type "list") I hg hm (by decide +kernel) ?_)
  refine PyProof.Rows.callWith_type1 ?_ hs1 rfl
  rw [hs1]
  refine Calls.spliced_cons ?_
  refine Call_ (ld_blt I hg2 hm2 PyProof.Rows.boot_zip (PyProof.Rows.callWith_type1 (thn (ha.run pos2 pins s σ H _ I h) fun us s1 z => ?_) hs hpl))
  obtain ⟨vs, H1, I1, r1, a, b, xs, ys, ex, lxy, hq, q⟩ := z
  subst ex
  cases r1 with
  | cons r rr =>
    cases rr with
    | cons r' rr =>
      cases rr
      cases r
      cases r'
      have fin : ∀ (k : Bool) (its its2 : List Value), Vals xs its → Vals ys its2 → xs.length ≤ sizeLine → (∀ h' : Heap, (∀ c o, s1.heap.get? c = some o → h'.get? c = some o) → match k with | true => h'.IsTuple a its.toArray ∧ h'.IsTuple b its2.toArray | false => h'.IsList a its.toArray ∧ h'.IsList b its2.toArray) → a < s1.heap.objs.size → b < s1.heap.objs.size →
          ∀ h' : Heap, IsZip h' (s1.heap.objs.size + 4) (s1.heap.objs.size + 2) (s1.heap.objs.size + 3) .none → IsPair h' (s1.heap.objs.size + 2) (.ref s1.heap.objs.size) (.ref (s1.heap.objs.size + 1)) →
            IsPair h' (s1.heap.objs.size + 3) .none .none → (match k with | true => h'.IsTupleIter s1.heap.objs.size a 0 ∧ h'.IsTupleIter (s1.heap.objs.size + 1) b 0 | false => h'.IsListIter s1.heap.objs.size a 0 ∧ h'.IsListIter (s1.heap.objs.size + 1) b 0) → h'.objs.size = s1.heap.objs.size + 5 →
            (∀ c o, s1.heap.get? c = some o → h'.get? c = some o) → wpAny (model X.prog X.w) X.A (call (.type "list") [.ref (s1.heap.objs.size + 4)]) (EP X pins σ Q) X.xe { s1 with heap := h' } := by
        intro k its its2 rv rv2 hz hkk la lb h' hz0 hTI hTO hit hsz hk
        have lu := rv.length
        have lv := rv2.length
        have st : ∀ lo, ZSt h' k lo (s1.heap.objs.size + 4) (s1.heap.objs.size + 2) (s1.heap.objs.size + 3) s1.heap.objs.size (s1.heap.objs.size + 1) a b 0 its.toArray its2.toArray := fun lo => by
          have hq2 := hkk h' hk
          cases k with
          | true => exact ⟨.inl ⟨hz0, hTO⟩, hTI, ⟨hit.1, hq2.1⟩, ⟨hit.2, hq2.2⟩⟩
          | false => exact ⟨.inl ⟨hz0, hTO⟩, hTI, ⟨hit.1, hq2.1⟩, ⟨hit.2, hq2.2⟩⟩
        refine zl_call (s := { s1 with heap := h' }) (k := k) (I1.ok.hd hc) (PySem.W.ktu_apart s1.heap.objs.size a b la lb) ?_ (by rw [List.size_toArray, List.size_toArray]; omega) (by rw [List.size_toArray]; omega) st hz0 fun h2 tk acc c as k2 hS hl hG hacc => ?_
        · show _ < h'.objs.size ∧ _ < h'.objs.size ∧ _ < h'.objs.size ∧ _ < h'.objs.size ∧ _ < h'.objs.size ∧ _ < h'.objs.size ∧ _ < h'.objs.size
          rw [hsz]
          exact lz7 la lb
        · have hl' : as.length = xs.length := by
            rw [hl, List.size_toArray]
            omega
          have hS0 : s1.heap.objs.size ≤ h'.objs.size := by
            rw [hsz]
            exact Nat.le_add_right _ _
          obtain ⟨H', x1, x2, x3, x4, x5, x6, J⟩ := zl_laid (tk := tk) I1 hz lxy rv rv2 hS0 (fun b o e => k2 b o (lt_ne (Heap.lt_size e) 4) (lt_ne (Heap.lt_size e) 3) (lt_ne (Heap.lt_size e) 0) (lt_ne (Heap.lt_size e) 1) (hk b o e)) hS hl' hG hacc
          exact ⟨.ref h'.objs.size, H', J, rfl, q H' _ as x1 x2 x3 x4 x5 x6⟩
      rcases hq with ⟨hqx, hqy⟩ | ⟨hqx, hqy⟩
      · obtain ⟨its, rv, p1, z1⟩ := I1.tuple hqx
        obtain ⟨its2, rv2, p2, _⟩ := I1.tuple hqy
        obtain ⟨o1, ho1, w1⟩ := id p1
        obtain ⟨o2, ho2, w2⟩ := id p2
        have lu := rv.length
        refine RZ.call_zipT (show s1.heap.IsTuple a its.toArray from p1) (show s1.heap.IsTuple b its2.toArray from p2) fun h' hz hTI hTO h1 h2 hsz hk => ?_
        refine Calls.spliced_nil ?_
        exact fin true its its2 rv rv2 (by omega) (fun h3 k3 => ⟨⟨o1, k3 _ _ ho1, w1⟩, ⟨o2, k3 _ _ ho2, w2⟩⟩) (Heap.lt_size ho1) (Heap.lt_size ho2) h' hz hTI hTO ⟨h1, h2⟩ hsz hk
      · obtain ⟨its, rv, p1, z1⟩ := I1.list hqx
        obtain ⟨its2, rv2, p2, _⟩ := I1.list hqy
        have lu := rv.length
        obtain ⟨o1, ho1, w1⟩ := p1.isList
        obtain ⟨o2, ho2, w2⟩ := p2.isList
        refine call_zip_2 p1.isList p2.isList fun h' hz hTI hTO h1 h2 hsz hk => ?_
        refine Calls.spliced_nil ?_
        exact fin false its its2 rv rv2 (by omega) (fun h3 k3 => ⟨⟨o1, k3 _ _ ho1, w1⟩, ⟨o2, k3 _ _ ho2, w2⟩⟩) (Heap.lt_size ho1) (Heap.lt_size ho2) h' hz hTI hTO ⟨h1, h2⟩ hsz hk
end
end Bk
set_option Elab.async false
set_option linter.all false
set_option maxRecDepth 100000
set_option maxHeartbeats 4000000
/-! Bk4: calls of defs, of built-ins by values; the turns of a reading. -/
namespace Bk
open PySem PySem.Spec PyProof.Rows L2
section
variable {X : Cx}
/-! ### calls of defs -/
theorem passAt0 {σ : L2.St} : PassesAt (L2.CX X.prog X.w) X σ (fun _ _ _ => False) := fun _ _ _ _ _ _ h => by
  obtain ⟨_, _, _, _, _, _, _, _, _, _, _, _, z⟩ := h
  exact z.elim
def uCall (sp : Sp) (dvs : List V) (E : L2.St → XK) (t : TA) : TE := fun σ H Q => t σ H fun vs H1 => sp (vs ++ dvs) H1 Q (E σ)
theorem run_fnD {CX : CXT} {k : Nat} {f : Addr} {fd : FuncData} {ps : List Str} {sp : Sp} {ds : List Value} {dvs : List V} {E : XK} {pins : List (Addr × Obj)} {σ : L2.St} {H : Hp} {s : Shared} {Q : VK} {us : List Value} {vs : List V}
    (F : FnOk X.prog X.w X.K X.mg X.base CX k f fd ps sp) (hr : Room k X.A) (hb : Binds X.K fd ps ds) (hd : Vals dvs ds) (hx : PassesAt CX X σ E) (I : Inv X pins σ H s) (r : Vals vs us) (h : sp (vs ++ dvs) H Q E) :
    wpAny (model X.prog X.w) X.A (call (.ref f) us) (EP X pins σ Q) X.xe s := by
  have r2 : Vals (vs ++ dvs) (us ++ ds) := r.append hd
  have hl : (us ++ ds).length = ps.length := by rw [← r2.length]; exact F.len _ _ _ _ h
  refine wpAny_call (codeAny_mono (F.run X.A X.stack s H ⟨us, []⟩ (us ++ ds) (vs ++ dvs) Q E hr I.env0 (hb s us I.kIn hl) r2 h) fun r s' hq => ?_)
  cases r with
  | error e => exact hx pins H s e s' I hq
  | ok fl =>
    cases fl with
    | ret u => exact I.after hq
    | next => exact False.elim hq
    | brk => exact False.elim hq
    | cont => exact False.elim hq
variable {CX : CXT} {k : Nat} {f : Addr} {fd : FuncData} {ps : List Str} {sp : Sp} {ds : List Value} {dvs : List V} {E : L2.St → XK} {x : Str} {p pos : Pos} {e : Expr} {es : List Expr} {t : TA}
theorem pe_callD (F : FnOk X.prog X.w X.K X.mg X.base CX k f fd ps sp) (hr : Room k X.A) (hg : Gl X x) (hm : X.mg x = some (.ref f)) (hk : PySem.W.keepIn X.K (.ref f) = true) (hb : Binds X.K fd ps ds) (hd : Vals dvs ds) (hx : ∀ σ, PassesAt CX X σ (E σ))
    (ha : PA X (e :: es) t) (hdb : (x == ("__debug__" : Str)) = false := by decide) (he : starEach (e :: es) X.env = (false, eval e X.env) :: starEach es X.env := by rfl) (hpl : (backTo pos (starEach es X.env)).any (·.1) = false := by rfl) :
    PE X (.Call (.Name x p) (e :: es) [] pos) (uCall sp dvs E t) := by
  refine ⟨fun pins s σ H Q I h => ?_⟩
  refine wpAny_Call_Name_kw (ld_glob I hg hm ?_ hdb)
  refine PySem.W.callWith_K (h₀ := X.base) I.ok.mod.kin hk (thn (ha.run pos pins s σ H _ I h) fun us s1 z => ?_) he hpl
  obtain ⟨vs, H1, I1, r, q⟩ := z
  exact ⟨I1.kIn, run_fnD F hr hb hd (hx σ) I1 r q⟩
/-! ### calls of built-ins by values -/
def uAbs : List V → Hp → VK → Prop := fun xs H Q => match xs with
  | [.int i] => Q (.int (i.natAbs : Nat)) H
  | _ => False
theorem uk_abs : CallR X (.builtin "abs") uAbs := by
  intro pins s σ H xs us Q I r h
  unfold uAbs at h
  split at h
  · rename_i i
    refine call_abs pins s σ H _ us Q I r ⟨_, rfl, ?_⟩
    have z : (if i < 0 then -i else i) = (i.natAbs : Nat) := by split <;> omega
    rw [z]
    exact h
  · exact h.elim
def uMax2 : List V → Hp → VK → Prop := fun xs H Q => match xs with
  | [.int i, .int j] => Q (.int (max i j)) H
  | _ => False
theorem uk_max2 (hc : X.calm = true) : CallR X (.builtin "max") uMax2 := by
  intro pins s σ H xs us Q I r h
  unfold uMax2 at h
  split at h
  · rename_i i j
    refine call_max2 hc pins s σ H _ us Q I r ⟨_, _, rfl, ?_⟩
    have z : (if j > i then j else i) = max i j := by split <;> omega
    rw [z]
    exact h
  · exact h.elim
def uMin2 : List V → Hp → VK → Prop := fun xs H Q => match xs with
  | [.int i, .int j] => Q (.int (min i j)) H
  | _ => False
theorem uk_min2 (hc : X.calm = true) : CallR X (.builtin "min") uMin2 := by
  intro pins s σ H xs us Q I r h
  unfold uMin2 at h
  split at h
  · rename_i i j
    refine call_min2 hc pins s σ H _ us Q I r ⟨_, _, rfl, ?_⟩
    have z : (if j < i then j else i) = min i j := by split <;> omega
    rw [z]
    exact h
  · exact h.elim
def b2z (b : Bool) : Int := if b then 1 else 0
def uInt : List V → Hp → VK → Prop := fun xs H Q => match xs with
  | [.int i] => Q (.int i) H
  | [.bl k] => Q (.int (b2z k)) H
  | _ => False
theorem uk_int : CallR X (.type "int") uInt := by
  intro pins s σ H xs us Q I r h
  unfold uInt at h
  split at h
  · exact call_int1 pins s σ H _ us Q I r (.inl ⟨_, rfl, h⟩)
  · exact call_int1 pins s σ H _ us Q I r (.inr ⟨_, rfl, h⟩)
  · exact h.elim
/-! ### isinstance by what the value is -/
/-- the kinds of values that we meet, as built-in types -/
inductive Ty : PySem.W.Frag → Hp → V → String → Prop where
  | non {K : PySem.W.Frag} {H : Hp} : Ty K H .non "NoneType"
  | bl {K : PySem.W.Frag} {H : Hp} (b : Bool) : Ty K H (.bl b) "bool"
  | int {K : PySem.W.Frag} {H : Hp} (i : Int) : Ty K H (.int i) "int"
  | str {K : PySem.W.Frag} {H : Hp} (z : Str) : Ty K H (.str z) "str"
  | lst {K : PySem.W.Frag} {H : Hp} {a : Addr} {xs : List V} (e : H a = some (.lst xs)) : Ty K H (.ref a) "list"
  | tup {K : PySem.W.Frag} {H : Hp} {a : Addr} {xs : List V} (e : H a = some (.tup xs)) : Ty K H (.ref a) "tuple"
theorem Ty.wide {K : PySem.W.Frag} {H : Hp} {v : V} {t : String} (h : Ty K H v t) : TyX K H v (.type t) := by
  cases h with
  | non => exact .base .non
  | bl b => exact .base (.bl b)
  | int i => exact .base (.int i)
  | str z => exact .base (.str z)
  | lst e => exact .base (.lst e)
  | tup e => exact .base (.tup e)
/-- isinstance(x, T), T a built-in type; x any value of ours -/
def uIs (K : PySem.W.Frag) : List V → Hp → VK → Prop := fun xs H Q => match xs with
  | [x, .ty T] => ∃ (t : String) (b : Bool), Ty K H x t ∧ kitB t T = some b ∧ Q (.bl b) H
  | _ => False
theorem uk_is : CallR X (.builtin "isinstance") (uIs X.K) := by
  intro pins s σ H xs us Q I r h
  unfold uIs at h
  split at h
  · obtain ⟨t, b, ty, e, q⟩ := h
    exact call_isi pins s σ H _ us Q I r ⟨_, _, _, _, b, rfl, .ty _, ty.wide, kit_ty e, q⟩
  · exact h.elim
/-- isinstance(x, (T, U)) -/
def uIsT (K : PySem.W.Frag) : List V → Hp → VK → Prop := fun xs H Q => match xs with
  | [x, .ref p] => ∃ (t T U : String) (b c : Bool), H p = some (.tup [.ty T, .ty U]) ∧ Ty K H x t ∧ kitB t T = some b ∧ kitB t U = some c ∧ Q (.bl (b || c)) H
  | _ => False
theorem uk_isT : CallR X (.builtin "isinstance") (uIsT X.K) := by
  intro pins s σ H xs us Q I r h
  unfold uIsT at h
  split at h
  · obtain ⟨t, T, U, b, c, ep, ty, e1, e2, q⟩ := h
    refine call_isiT pins s σ H _ us Q I r ⟨_, _, _, _, [.type T, .type U], b || c, rfl, ep, .cons (.ty T) (.cons (.ty U) .nil), ty.wide, ?_, q⟩
    refine kitAny_cons (kit_ty e1) (fun hb => ?_) fun hb => by rw [hb]; rfl
    rw [hb]
    exact kitAny_cons (kit_ty e2) (fun hc => by rw [hc]; rfl) fun hc => by rw [hc]; rfl
  · exact h.elim
end
end Bk
set_option Elab.async false
set_option linter.all false
set_option maxRecDepth 100000
set_option maxHeartbeats 4000000
/-! Bk5: the turns of a reading, one lemma a word. -/
namespace Bk
open PySem PySem.Spec PyProof.Rows L2
section
variable {D : Ends} {σ : L2.St} {H : Hp} {Q : VK} {K : PySem.W.Frag} {te ta tb tx : TE} {t u : TS} {c d : TT} {g : TG} {tr : TA} {v : V} {i j : Int} {n m : Nat} {r : R2} {gg : Int → Int → V} {C : Int → Int → Prop} {q : Bool → Hp → Prop} {b : Bool}
/-! statements -/
theorem g_seq (h : t { D with nx := u D } σ H) : tSeq t u D σ H := h
theorem g_asg (h : te σ H fun x H1 => g x σ H1 D.nx) : tAsg te g D σ H := h
theorem g_ret (h : te σ H D.rt) : tRet te D σ H := h
theorem g_retN (h : D.rt .non H) : tRetN D σ H := h
theorem g_drop (h : te σ H fun _ H1 => D.nx σ H1) : tDrop te D σ H := h
theorem g_ifs (h : c σ H fun b H1 => if b = true then t D σ H1 else u D σ H1) : tIfS c t u D σ H := h
theorem g_next (h : D.nx σ H) : tNext D σ H := h
theorem g_par {tA : TA} (h : tA σ H fun vs H1 => ∃ v w, vs = [v, w] ∧ D.nx ((σ.set n (some v)).set m (some w)) H1) : tPar n m tA D σ H := h
theorem g_pair {x y : V} {P : V → V → Prop} (h : P x y) : ∃ v w, [x, y] = [v, w] ∧ P v w := ⟨x, y, rfl, h⟩
theorem g_name {P : L2.St → Hp → Prop} (h : P (σ.set n (some v)) H) : gName n v σ H P := h
theorem g_sub {to ti : TE} {ts : TSet} {P : L2.St → Hp → Prop} (h : to σ H fun o H1 => ti σ H1 fun i H2 => ts o i v H2 fun H3 => P σ H3) : gSub to ti ts v σ H P := h
theorem g_setL {p : Addr} {xs : List V} {P : Hp → Prop} {k : Nat} (hp : H p = some (.lst xs)) (hk : ixN xs.length i = some k) (h : P (upd H p (.lst (xs.set k v)))) : rSetL (.ref p) (.int i) v H P := ⟨p, xs, i, k, rfl, rfl, hp, hk, h⟩
theorem g_tup2 {p : Addr} {x y : V} {t1 t2 : TG} {P : L2.St → Hp → Prop} (hp : H p = some (.tup [x, y])) (h : t1 x σ H fun σ1 H1 => t2 y σ1 H1 P) : gTup K 2 (gCons t1 (gCons t2 gNil)) (.ref p) σ H P := by
  refine ⟨p, [x, y], rfl, sqT hp, rfl, x, [y], rfl, ?_⟩
  have e : (fun σ' H' => gCons t2 gNil [y] σ' H' P) = fun σ1 H1 => t2 y σ1 H1 P := by
    funext σ1 H1
    apply propext
    constructor
    · rintro ⟨_, _, q, h⟩
      cases q
      have e2 : (fun σ' H' => gNil [] σ' H' P) = P := by
        funext σ2 H2
        exact propext ⟨fun z => z.2, fun z => ⟨rfl, z⟩⟩
      rw [e2] at h
      exact h
    · intro h
      refine ⟨y, [], rfl, ?_⟩
      have e2 : (fun σ' H' => gNil [] σ' H' P) = P := by
        funext σ2 H2
        exact propext ⟨fun z => z.2, fun z => ⟨rfl, z⟩⟩
      rw [e2]
      exact h
  rw [e]
  exact h
/-! expressions -/
theorem g_c (h : Q v H) : tC v σ H Q := h
theorem g_op (h : ta σ H fun x H1 => tb σ H1 fun y H2 => r x y H2 Q) : tOp r ta tb σ H Q := h
theorem g_un {f : V → Hp → VK → Prop} (h : ta σ H fun x H1 => f x H1 Q) : tUn f ta σ H Q := h
theorem g_cons {P : List V → Hp → Prop} (h : ta σ H fun x H1 => tr σ H1 fun xs H2 => P (x :: xs) H2) : tCons ta tr σ H P := h
theorem g_nil {P : List V → Hp → Prop} (h : P [] H) : tNil σ H P := h
theorem g_cb {f : List V → Hp → VK → Prop} (h : tr σ H fun vs H1 => f vs H1 Q) : tCB f tr σ H Q := h
theorem g_call {sp : Sp} {dvs : List V} {E : L2.St → XK} (h : tr σ H fun vs H1 => sp (vs ++ dvs) H1 Q (E σ)) : uCall sp dvs E tr σ H Q := h
theorem g_if (h : c σ H fun b H1 => if b = true then ta σ H1 Q else tb σ H1 Q) : tIf c ta tb σ H Q := h
theorem g_iT {A B : Prop} (h : A) : if true = true then A else B := by rw [if_pos rfl]; exact h
theorem g_iF {A B : Prop} (h : B) : if false = true then A else B := by rw [if_neg Bool.false_ne_true]; exact h
theorem g_iNT {A B : Prop} (h : B) : if (!true) = true then A else B := by rw [if_neg (by decide)]; exact h
theorem g_iNF {A B : Prop} (h : A) : if (!false) = true then A else B := by rw [if_pos (by decide)]; exact h
theorem g_isNn (h : Q (.bl true) H) : uIsN .non .non H Q := ⟨rfl, by rw [decide_eq_true rfl]; exact h⟩
theorem g_isNr {a : Addr} (h : Q (.bl false) H) : uIsN (.ref a) .non H Q := ⟨rfl, by rw [decide_eq_false (fun z => nomatch z)]; exact h⟩
theorem g_isNi (h : Q (.bl false) H) : uIsN (.int i) .non H Q := ⟨rfl, by rw [decide_eq_false (fun z => nomatch z)]; exact h⟩
theorem g_notNn (h : Q (.bl false) H) : uNotN .non .non H Q := ⟨rfl, by rw [decide_eq_true rfl]; exact h⟩
theorem g_notNr {a : Addr} (h : Q (.bl true) H) : uNotN (.ref a) .non H Q := ⟨rfl, by rw [decide_eq_false (fun z => nomatch z)]; exact h⟩
theorem g_notNi (h : Q (.bl true) H) : uNotN (.int i) .non H Q := ⟨rfl, by rw [decide_eq_false (fun z => nomatch z)]; exact h⟩
theorem g_notV (h : ta σ H fun x H1 => ∃ c, x = .bl c ∧ Q (.bl (!c)) H1) : tNotV ta σ H Q := h
theorem g_not (h : c σ H fun b H1 => q (!b) H1) : tNot c σ H q := h
theorem g_and (h : c σ H fun b H1 => if b = true then d σ H1 q else q false H1) : tAnd c d σ H q := h
theorem g_or (h : c σ H fun b H1 => if b = true then q true H1 else d σ H1 q) : tOr c d σ H q := h
theorem g_uT (h : te σ H fun x H1 => uTru K x H1 q) : uT K te σ H q := h
theorem g_test (h : te σ H fun x H1 => ∃ k, x = .bl k ∧ q k H1) : tTest te σ H q := h
theorem g_tB (h : te σ H fun x H1 => ∃ c, x = .bl c ∧ q c H1) : tB te σ H q := h
theorem g_bl {P : Bool → Prop} (h : P b) : ∃ k, V.bl b = .bl k ∧ P k := ⟨b, rfl, h⟩
theorem g_chain {r' : R2} (h : ta σ H fun x H1 => tb σ H1 fun y H2 => r x y H2 fun z H3 => ∃ k, z = .bl k ∧ (if k = true then tx σ H3 fun w' H4 => r' y w' H4 Q else Q (.bl false) H3)) : tChain r r' ta tb tx σ H Q := h
theorem g_andV (h : ta σ H fun x H1 => ∃ c, x = .bl c ∧ if c = true then tb σ H1 Q else Q (.bl false) H1) : tAndV ta tb σ H Q := h
theorem g_orV (h : ta σ H fun x H1 => ∃ c, x = .bl c ∧ if c = true then Q (.bl true) H1 else tb σ H1 Q) : tOrV ta tb σ H Q := h
theorem g_tbl (h : q b H) : uTru K (.bl b) H q := h
theorem g_tin (h : q (i != 0) H) : uTru K (.int i) H q := h
theorem g_addI (h : Q (.int (i + j)) H) : uAdd K (.int i) (.int j) H Q := h
theorem g_i0 (h : Q (gg i j) H) : uI0 gg (.int i) (.int j) H Q := h
theorem g_i (h : Q (gg i j) H) (hc : C i j) : uI C gg (.int i) (.int j) H Q := ⟨hc, h⟩
theorem g_neg (h : Q (.int (-i)) H) : uNeg (.int i) H Q := h
theorem g_eqI (h : Q (.bl (decide (V.int i = V.int j))) H) : rEq (.int i) (.int j) H Q := ⟨rfl, h⟩
theorem g_neI (h : Q (.bl (!decide (V.int i = V.int j))) H) : rNe (.int i) (.int j) H Q := ⟨rfl, h⟩
theorem g_eqS {x y : Str} (h : Q (.bl (decide (V.str x = V.str y))) H) : rEq (.str x) (.str y) H Q := ⟨rfl, h⟩
theorem g_neS {x y : Str} (h : Q (.bl (!decide (V.str x = V.str y))) H) : rNe (.str x) (.str y) H Q := ⟨rfl, h⟩
theorem g_neB {x y : Bool} (h : Q (.bl (!decide (V.bl x = V.bl y))) H) : rNe (.bl x) (.bl y) H Q := ⟨rfl, h⟩
theorem g_abs (h : Q (.int (i.natAbs : Nat)) H) : uAbs [.int i] H Q := h
theorem g_max (h : Q (.int (max i j)) H) : uMax2 [.int i, .int j] H Q := h
theorem g_min (h : Q (.int (min i j)) H) : uMin2 [.int i, .int j] H Q := h
theorem g_intI (h : Q (.int i) H) : uInt [.int i] H Q := h
theorem g_intB (h : Q (.int (b2z b)) H) : uInt [.bl b] H Q := h
theorem g_lenL {p : Addr} {xs : List V} (hp : H p = some (.lst xs)) (h : Q (.int (xs.length : Nat)) H) : uLen K [.ref p] H Q := ⟨xs.length, .inl ⟨xs, .inl (sqL hp), rfl⟩, h⟩
theorem g_lenT {p : Addr} {xs : List V} (hp : H p = some (.tup xs)) (h : Q (.int (xs.length : Nat)) H) : uLen K [.ref p] H Q := ⟨xs.length, .inl ⟨xs, .inr (sqT hp), rfl⟩, h⟩
theorem g_lenSq {p : Addr} {xs : List V} (hp : SqL K H p xs) (h : Q (.int (xs.length : Nat)) H) : uLen K [.ref p] H Q := ⟨xs.length, .inl ⟨xs, .inl hp, rfl⟩, h⟩
theorem g_ixL {p : Addr} {xs : List V} (hp : H p = some (.lst xs)) (e : atI xs i = some v) (h : Q v H) : uIx K (.ref p) (.int i) H Q := ⟨xs, v, .inl (sqL hp), e, h⟩
theorem g_ixT {p : Addr} {xs : List V} (hp : H p = some (.tup xs)) (e : atI xs i = some v) (h : Q v H) : uIx K (.ref p) (.int i) H Q := ⟨xs, v, .inr (sqT hp), e, h⟩
theorem g_ixSq {p : Addr} {xs : List V} (hp : SqL K H p xs) (e : atI xs i = some v) (h : Q v H) : uIx K (.ref p) (.int i) H Q := ⟨xs, v, .inl hp, e, h⟩
theorem g_tup (h : tr σ H fun xs H1 => xs.length ≤ sizeLine ∧ ∀ p, H1 p = none → Q (.ref p) (upd H1 p (.tup xs))) : tTup tr σ H Q := h
theorem g_lst (h : tr σ H fun xs H1 => xs.length ≤ sizeLine ∧ ∀ p, H1 p = none → Q (.ref p) (upd H1 p (.lst xs))) : tLst tr σ H Q := h
theorem g_new {xs : List V} {P : Prop} (h : P) (hl : Nat.ble xs.length 1000 = true := by rfl) : xs.length ≤ sizeLine ∧ P := ⟨Nat.le_of_lt (small1000 (Nat.le_of_ble_eq_true hl)), h⟩
theorem g_for {wi : TI} {tb : TS} {D : Ends} {σ : L2.St} {H : Hp} (h : wi σ H fun J H1 => ∃ W : Nat → Nat → L2.St → Hp → Prop, (∃ m, W 0 m σ H1) ∧ ∀ i m σ H, W i m σ H →
  (J.stop i H ∧ D.nx σ H) ∨ (J.go i H ∧ ∃ N : L2.St → Hp → Prop, (∀ σ' H', N σ' H' → ∃ m', m' < m ∧ W (i + 1) m' σ' H') ∧ ∀ x H', J.yld i H x H' → g x σ H' fun σ2 H2 => tb { D with nx := N, ct := N, bk := D.nx } σ2 H2)) : tFor wi g tb D σ H := h
theorem g_rng1 {R : It → Hp → Prop} (h : tr σ H fun vs H1 => ∃ j : Int, vs = [.int j] ∧ -(2 ^ 62) ≤ j ∧ j < 2 ^ 62 ∧ R (Itr 0 j.toNat) H1) : iRng1 tr σ H R := h
theorem g_rng2 {R : It → Hp → Prop} (h : tr σ H fun vs H1 => ∃ i j : Int, vs = [.int i, .int j] ∧ (-(2 ^ 62) ≤ i ∧ i < 2 ^ 62 ∧ -(2 ^ 62) ≤ j ∧ j < 2 ^ 62) ∧ R (Itr i (j - i).toNat) H1) : iRng2 tr σ H R := h
theorem g_bm0 {T : String} {f : V → List V → Hp → VK → Prop} (h : ta σ H fun x H1 => tyV K T x H1 ∧ f x [] H1 Q) : tBM0 K T f ta σ H Q := h
theorem g_bm {T : String} {f : V → List V → Hp → VK → Prop} (h : ta σ H fun x H1 => tyV K T x H1 ∧ tr σ H1 fun xs H2 => f x xs H2 Q) : tBM K T f ta tr σ H Q := h
theorem g_tyL {p : Addr} {xs : List V} {P : Prop} (hp : H p = some (.lst xs)) (h : P) : tyV K "list" (.ref p) H ∧ P := ⟨.inl ⟨rfl, xs, sqL hp⟩, h⟩
theorem g_app {p : Addr} {xs : List V} (hp : H p = some (.lst xs)) (hz : xs.length < sizeLine) (h : Q .non (upd H p (.lst (xs ++ [v])))) : rAppend (.ref p) [v] H Q := ⟨p, xs, v, rfl, rfl, hp, hz, h⟩
end
/-- the rest of a while's turn: it ends where W stands with less -/
def WN (W : Nat → L2.St → Hp → Prop) (m : Nat) (tb : TS) (D : Ends) (σ : L2.St) (H : Hp) : Prop := ∃ N : L2.St → Hp → Prop, (∀ σ' H', N σ' H' → ∃ m', m' < m ∧ W m' σ' H') ∧ tb { D with nx := N, ct := N, bk := D.nx } σ H
theorem g_wn {W : Nat → L2.St → Hp → Prop} {m : Nat} {tb : TS} {D : Ends} {σ : L2.St} {H : Hp} (h : tb { D with nx := fun σ' H' => ∃ m', m' < m ∧ W m' σ' H', ct := fun σ' H' => ∃ m', m' < m ∧ W m' σ' H', bk := D.nx } σ H) : WN W m tb D σ H := ⟨_, fun _ _ z => z, h⟩
/-- while, by a word that bears its measure -/
theorem g_while {c : TT} {tb : TS} {D : Ends} {σ : L2.St} {H : Hp} (W : Nat → L2.St → Hp → Prop) (m0 : Nat) (h0 : W m0 σ H) (hs : ∀ m σ H, W m σ H → c σ H fun b H1 => if b = true then WN W m tb D σ H1 else D.nx σ H1) : tWhile c tb D σ H :=
  ⟨W, ⟨m0, h0⟩, hs⟩
end Bk
set_option Elab.async false
set_option linter.all false
set_option maxRecDepth 100000
set_option maxHeartbeats 4000000
/-! Bk6: what all laws share: tests, boxes of draws, the law's own end. -/
namespace Bk
open PySem PySem.Spec PyProof.Rows L2
/-! ### tests -/
section
variable {A B : Prop} {i j : Int}
theorem i_d {p : Prop} [Decidable p] (h1 : p → A) (h2 : ¬ p → B) : if decide p = true then A else B := by
  by_cases h : p
  · rw [if_pos (decide_eq_true h)]; exact h1 h
  · rw [if_neg (by simp [h])]; exact h2 h
theorem i_n {p : Prop} [Decidable p] (h1 : ¬ p → A) (h2 : p → B) : if (!decide p) = true then A else B := by
  by_cases h : p
  · rw [if_neg (by simp [h])]; exact h2 h
  · rw [if_pos (by simp [h])]; exact h1 h
theorem i_b {b : Bool} (h1 : b = true → A) (h2 : b = false → B) : if b = true then A else B := by
  cases b with
  | true => rw [if_pos rfl]; exact h1 rfl
  | false => rw [if_neg Bool.false_ne_true]; exact h2 rfl
theorem i_eqI (h1 : i = j → A) (h2 : i ≠ j → B) : if decide (V.int i = V.int j) = true then A else B := i_d (fun h => h1 (V.int.inj h)) fun h => h2 fun e => h (congrArg V.int e)
theorem i_neI (h1 : i ≠ j → A) (h2 : i = j → B) : if (!decide (V.int i = V.int j)) = true then A else B := i_n (fun h => h1 fun e => h (congrArg V.int e)) fun h => h2 (V.int.inj h)
theorem i_F {b : Bool} (h : b = false) (a : B) : if b = true then A else B := by rw [h, if_neg Bool.false_ne_true]; exact a
end
/-! ### the structure's small parts -/
theorem exm_self {K : PySem.W.Frag} {S : Addr} (h1 : PySem.W.subIn K (.ref S) (.type "BaseException") = some true) (h2 : PySem.W.isClsIn K S = true) (h3 : PySem.W.typeIn K (.ref S) = some (.type "type")) (h4 : PySem.W.subIn K (.ref S) (.ref S) = some true) :
    PySem.W.exmOne K (.ref S) (.ref S) = some true := by
  have a : (PySem.W.subIn K (.ref S) (.type "BaseException") == some true) = true := by rw [h1] <;> rfl
  have b : ((PySem.W.clsIn K S).isSome && PySem.W.typeIn K (.ref S) == some (.type "type")) = true := by
    have z : (PySem.W.clsIn K S).isSome = true := h2
    rw [z, h3] <;> rfl
  show (if (PySem.W.subIn K (.ref S) (.type "BaseException") == some true) = true then (if ((PySem.W.clsIn K S).isSome && PySem.W.typeIn K (.ref S) == some (.type "type")) = true then PySem.W.subIn K (.ref S) (.ref S) else none) else none) = some true
  rw [if_pos a, if_pos b]
  exact h4
theorem binds_all {K : PySem.W.Frag} {fd : FuncData} {ps : List Str} (h : ∃ ds, Vals [] ds ∧ Binds K fd ps ds) : Binds K fd ps [] := by
  obtain ⟨ds, r, b⟩ := h
  cases r
  exact b
theorem cx_false {P : Program} {w : World} {H : Hp} {s s' : Shared} {e : Value} (h : L2.CX P w [] H s (fun _ _ _ => False) e s') : False := by
  obtain ⟨_, _, _, _, _, _, _, _, _, _, _, _, z⟩ := h
  exact z
/-! ### a box of draws -/
def Box (H : Hp) (p : Addr) : Prop := ∃ a b c : Int, H p = some (.lst [.int a, .int b, .int c])
theorem Box.ex {H H' : Hp} {p : Addr} (b : Box H p) (e : Ex H H') : Box H' p := by
  obtain ⟨x, y, z, h⟩ := b
  exact ⟨x, y, z, e _ _ h⟩
theorem Box.but {H H' : Hp} {p l : Addr} (b : Box H p) (e : But l H H') (n : p ≠ l) : Box H' p := by
  obtain ⟨x, y, z, h⟩ := b
  exact ⟨x, y, z, e _ _ n h⟩
/-- take(box, m): a number from 0 to m - 1 -/
def spTake : Sp := fun vs H Q _ => ∃ (p : Addr) (m : Int), vs = [.ref p, .int m] ∧ Box H p ∧ 0 < m ∧ m.natAbs.log2 < 9000 ∧ ∀ (d : Int) (H' : Hp), 0 ≤ d → d < m → But p H H' → Box H' p → Q (.int d) H'
/-- box(script, k): a new box -/
def spBox (K : PySem.W.Frag) : Sp := fun vs H Q _ => ∃ (s : Addr) (ns : List Int) (k : Nat), vs = [.ref s, .int (k : Int)] ∧ SqL K H s (ns.map V.int) ∧ ns.length ≤ 63 ∧ ∀ (p : Addr) (H' : Hp), H p = none → Ex H H' → Box H' p → Q (.ref p) H'
theorem fmod_pos {a m : Int} (h : 0 < m) : 0 ≤ a.fmod m ∧ a.fmod m < m := by
  rw [Int.fmod_eq_emod_of_nonneg a (Int.le_of_lt h)]
  exact ⟨Int.emod_nonneg _ (Int.ne_of_gt h), Int.emod_lt_of_pos _ h⟩
theorem at_ints {ns : List Int} {i : Nat} (h : i < ns.length) : atI (ns.map V.int) (i : Int) = some (.int ns[i]) := atI_nat (by rw [List.getElem?_map, List.getElem?_eq_getElem h]; rfl)
end Bk
set_option Elab.async false
set_option linter.all false
set_option maxRecDepth 100000
set_option maxHeartbeats 4000000
/-! Bk7: sizes of numbers, the found pair's parts, values told apart. -/
namespace Bk
open PySem PySem.Spec PyProof.Rows L2
/-- within n bits -/
def Bits (n : Nat) (i : Int) : Prop := i.natAbs < 2 ^ n
instance instBits (n : Nat) (i : Int) : Decidable (Bits n i) := inferInstanceAs (Decidable (i.natAbs < 2 ^ n))
theorem Bits.le {n m : Nat} {i : Int} (h : Bits n i) (hm : n ≤ m := by decide) : Bits m i := Nat.lt_of_lt_of_le h (Nat.pow_le_pow_right (by decide) hm)
theorem Bits.mul {n m : Nat} {i j : Int} (h : Bits n i) (g : Bits m j) : Bits (n + m) (i * j) := by
  unfold Bits at *
  rw [Int.natAbs_mul, Nat.pow_add]
  exact Nat.mul_lt_mul'' h g
theorem Bits.add {n : Nat} {i j : Int} (h : Bits n i) (g : Bits n j) : Bits (n + 1) (i + j) := by
  unfold Bits at *
  rw [Nat.pow_succ]
  omega
theorem Bits.of_le {n : Nat} {i j : Int} (h : Bits n j) (g : i.natAbs ≤ j.natAbs) : Bits n i := Nat.lt_of_le_of_lt g h
theorem Bits.log {n : Nat} {i : Int} (h : Bits n i) (hn : 0 < n := by decide) : i.natAbs.log2 < n := by
  by_cases c : i.natAbs = 0
  · rw [c]
    exact hn
  · exact (Nat.log2_lt c).2 h
theorem fdiv_le {i j : Int} (h : j ≠ 0) (d : j ∣ i) : (i.fdiv j).natAbs ≤ i.natAbs := by
  rw [Int.fdiv_eq_ediv_of_dvd d]
  exact Int.natAbs_ediv_le_natAbs _ _
theorem Bits.of_fdiv {n : Nat} {i j : Int} (b : Bits n i) (h : j ≠ 0) (d : j ∣ i) : Bits n (i.fdiv j) := b.of_le (fdiv_le h d)
/-- what the two parts are divided by -/
def fpt (u l : Int) : Int := if l < 0 then 0 - (Int.gcd u l : Nat) else (Int.gcd u l : Nat)
theorem fpt_ne {u l : Int} (h : l ≠ 0) : fpt u l ≠ 0 := by
  have e : Int.gcd u l ≠ 0 := fun z => h (Int.gcd_eq_zero_iff.1 z).2
  unfold fpt
  split <;> omega
theorem fpt_l (u l : Int) : fpt u l ∣ l := by
  unfold fpt
  split
  · rw [Int.zero_sub]
    exact Int.neg_dvd.2 (Int.gcd_dvd_right u l)
  · exact Int.gcd_dvd_right u l
theorem fpt_u (u l : Int) : fpt u l ∣ u := by
  unfold fpt
  split
  · rw [Int.zero_sub]
    exact Int.neg_dvd.2 (Int.gcd_dvd_left u l)
  · exact Int.gcd_dvd_left u l
/-- u / l in lowest terms -/
def fru (u l : Int) : Int := u.fdiv (fpt u l)
def frl (u l : Int) : Int := l.fdiv (fpt u l)
theorem fru_bits {n : Nat} {u l : Int} (h : l ≠ 0) (b : Bits n u) : Bits n (fru u l) := b.of_fdiv (fpt_ne h) (fpt_u u l)
theorem frl_bits {n : Nat} {u l : Int} (h : l ≠ 0) (b : Bits n l) : Bits n (frl u l) := b.of_fdiv (fpt_ne h) (fpt_l u l)
theorem frl_pos {u l : Int} (h : l ≠ 0) : 0 < frl u l := by
  have e : frl u l * fpt u l = l := by
    unfold frl
    rw [Int.fdiv_eq_ediv_of_dvd (fpt_l u l)]
    exact Int.ediv_mul_cancel (fpt_l u l)
  have g : 0 < Int.gcd u l := Nat.pos_of_ne_zero fun z => h (Int.gcd_eq_zero_iff.1 z).2
  by_cases c : l < 0
  · have f : fpt u l = 0 - (Int.gcd u l : Nat) := if_pos c
    rw [f] at e
    by_cases k : 0 < frl u l
    · exact k
    · exfalso
      have : 0 ≤ frl u l * (0 - (Int.gcd u l : Nat)) := Int.mul_nonneg_of_nonpos_of_nonpos (by omega) (by omega)
      omega
  · have f : fpt u l = (Int.gcd u l : Nat) := if_neg c
    rw [f] at e
    by_cases k : 0 < frl u l
    · exact k
    · exfalso
      have : frl u l * (Int.gcd u l : Nat) ≤ 0 := Int.mul_nonpos_of_nonpos_of_nonneg (by omega) (by omega)
      omega
end Bk
set_option Elab.async false
set_option linter.all false
set_option maxRecDepth 100000
set_option maxHeartbeats 4000000
/-! Bk8: two values of one reading are alike: what the laws' comparison needs. -/
namespace Bk
open PySem PySem.Spec PyProof.Rows L2
def D.tag : D → String
  | .non => "NoneType" | .bl _ => "bool" | .int _ => "int" | .str _ => "str" | .tup _ => "tuple" | .lst _ => "list"
def D.isT : D → Bool
  | .tup _ => true | _ => false
def D.isL : D → Bool
  | .lst _ => true | _ => false
def D.isB : D → Bool
  | .bl _ => true | _ => false
def D.isI : D → Bool
  | .int _ => true | .bl _ => true | _ => false
theorem Rep.ty {K : PySem.W.Frag} {H : Hp} {d : D} {v : V} (h : Rep H d v) : Ty K H v d.tag := by
  cases d <;> simp only [Rep] at h
  · subst h; exact .non
  · subst h; exact .bl _
  · subst h; exact .int _
  · subst h; exact .str _
  · obtain ⟨a, vs, rfl, e, _⟩ := h; exact .tup e
  · obtain ⟨a, vs, rfl, e, _⟩ := h; exact .lst e
theorem kit_tup (d : D) : kitB d.tag "tuple" = some d.isT := by cases d <;> simp only [D.tag, D.isT, D.isL, D.isB, D.isI] <;> decide +kernel
theorem kit_lst (d : D) : kitB d.tag "list" = some d.isL := by cases d <;> simp only [D.tag, D.isT, D.isL, D.isB, D.isI] <;> decide +kernel
theorem kit_bl (d : D) : kitB d.tag "bool" = some d.isB := by cases d <;> simp only [D.tag, D.isT, D.isL, D.isB, D.isI] <;> decide +kernel
theorem kit_int (d : D) : kitB d.tag "int" = some d.isI := by cases d <;> simp only [D.tag, D.isT, D.isL, D.isB, D.isI] <;> decide +kernel
section
variable {K : PySem.W.Frag} {H H0 H1 H2 : Hp} {Q : VK} {d : D} {v w : V}
theorem g_isD {T : String} {b : Bool} (r : Rep H d v) (e : kitB d.tag T = some b) (h : Q (.bl b) H) : uIs K [v, .ty T] H Q := ⟨_, b, r.ty, e, h⟩
theorem g_isTD {p : Addr} (r : Rep H d v) (hp : H p = some (.tup [.ty "tuple", .ty "list"])) (h : Q (.bl (d.isT || d.isL)) H) : uIsT K [v, .ref p] H Q := ⟨_, _, _, _, _, hp, r.ty, kit_tup d, kit_lst d, h⟩
theorem g_neBB {b : Bool} (h : Q (.bl false) H) : rNe (.bl b) (.bl b) H Q := ⟨rfl, by rw [decide_eq_true rfl]; exact h⟩
theorem g_neD (r : Rep H0 d v) (r' : Rep H0 d w) (ht : (d.isT || d.isL) = false) (h : Q (.bl false) H) : rNe v w H Q := by
  cases d <;> simp only [Rep] at r r'
  · subst r; subst r'; exact ⟨rfl, by rw [decide_eq_true rfl]; exact h⟩
  · subst r; subst r'; exact ⟨rfl, by rw [decide_eq_true rfl]; exact h⟩
  · subst r; subst r'; exact ⟨rfl, by rw [decide_eq_true rfl]; exact h⟩
  · subst r; subst r'; exact ⟨rfl, by rw [decide_eq_true rfl]; exact h⟩
  · cases ht
  · cases ht
theorem g_pop {l : Addr} {xs : List V} {y : V} (hl : H l = some (.lst (xs ++ [y]))) (h : Q y (upd H l (.lst xs))) : rPop (.ref l) [] H Q := by
  refine ⟨l, _, y, rfl, rfl, hl, ?_, ?_⟩
  · rw [List.length_append, List.length_singleton, Nat.add_sub_cancel, List.getElem?_append_right (Nat.le_refl _), Nat.sub_self]
    rfl
  · rw [List.dropLast_concat]
    exact h
theorem g_ext {l b : Addr} {xs zs : List V} (hl : H l = some (.lst xs)) (hb : H b = some (.lst zs)) (hz : xs.length + zs.length ≤ 1000000) (h : Q .non (upd H l (.lst (xs ++ zs)))) : rExtend (.ref l) [.ref b] H Q :=
  ⟨l, b, xs, zs, rfl, rfl, hl, hb, Nat.le_trans hz (by decide), h⟩
end
section
variable {K : PySem.W.Frag} {H H0 H1 H2 : Hp} {Q : VK} {d : D} {v w : V}
theorem D.open {d : D} (k : (d.isT || d.isL) = true) (r : Rep H0 d v) (r' : Rep H0 d w) : ∃ (a b : Addr) (ds : List D) (xs ys : List V), v = .ref a ∧ w = .ref b ∧ Reps H0 ds xs ∧ Reps H0 ds ys ∧ d.size = 1 + D.sizes ds ∧ ((H0 a = some (.tup xs) ∧ H0 b = some (.tup ys)) ∨ (H0 a = some (.lst xs) ∧ H0 b = some (.lst ys))) := by
  cases d <;> simp only [Rep] at r r'
  · cases k
  · cases k
  · cases k
  · cases k
  · rename_i ds
    obtain ⟨a, xs, rfl, ha, ra⟩ := r
    obtain ⟨b, ys, rfl, hb, rb⟩ := r'
    exact ⟨a, b, ds, xs, ys, rfl, rfl, ra, rb, by simp only [D.size], .inl ⟨ha, hb⟩⟩
  · rename_i ds
    obtain ⟨a, xs, rfl, ha, ra⟩ := r
    obtain ⟨b, ys, rfl, hb, rb⟩ := r'
    exact ⟨a, b, ds, xs, ys, rfl, rfl, ra, rb, by simp only [D.size], .inr ⟨ha, hb⟩⟩
theorem Reps.len2 {ds : List D} {xs ys : List V} (h : Reps H ds xs) (h' : Reps H ds ys) : xs.length = ys.length := h.len.trans h'.len.symm
theorem both_ex {a b : Addr} {xs ys : List V} (e : Ex H0 H) (h : (H0 a = some (.tup xs) ∧ H0 b = some (.tup ys)) ∨ (H0 a = some (.lst xs) ∧ H0 b = some (.lst ys))) : (H a = some (.tup xs) ∧ H b = some (.tup ys)) ∨ (H a = some (.lst xs) ∧ H b = some (.lst ys)) := by
  rcases h with ⟨h1, h2⟩ | ⟨h1, h2⟩
  · exact .inl ⟨e _ _ h1, e _ _ h2⟩
  · exact .inr ⟨e _ _ h1, e _ _ h2⟩
theorem both_sq {a b : Addr} {xs ys : List V} (h : (H a = some (.tup xs) ∧ H b = some (.tup ys)) ∨ (H a = some (.lst xs) ∧ H b = some (.lst ys))) : (SqT K H a xs ∧ SqT K H b ys) ∨ (SqL K H a xs ∧ SqL K H b ys) := by
  rcases h with ⟨h1, h2⟩ | ⟨h1, h2⟩
  · exact .inl ⟨sqT h1, sqT h2⟩
  · exact .inr ⟨sqL h1, sqL h2⟩
theorem g_len2a {a b : Addr} {xs ys : List V} (h : (H a = some (.tup xs) ∧ H b = some (.tup ys)) ∨ (H a = some (.lst xs) ∧ H b = some (.lst ys))) (q : Q (.int (xs.length : Nat)) H) : uLen K [.ref a] H Q := by
  rcases h with ⟨h1, h2⟩ | ⟨h1, h2⟩
  · exact g_lenT h1 q
  · exact g_lenL h1 q
theorem g_len2b {a b : Addr} {xs ys : List V} (h : (H a = some (.tup xs) ∧ H b = some (.tup ys)) ∨ (H a = some (.lst xs) ∧ H b = some (.lst ys))) (q : Q (.int (ys.length : Nat)) H) : uLen K [.ref b] H Q := by
  rcases h with ⟨h1, h2⟩ | ⟨h1, h2⟩
  · exact g_lenT h2 q
  · exact g_lenL h2 q
theorem g_lz {ta : TA} {σ : L2.St} (h : ta σ H fun vs H1 => ∃ a b xs ys, vs = [.ref a, .ref b] ∧ xs.length = ys.length ∧ ((SqT K H1 a xs ∧ SqT K H1 b ys) ∨ (SqL K H1 a xs ∧ SqL K H1 b ys)) ∧
  ∀ (H' : Hp) (p : Addr) (ts : List Addr), Ex H1 H' → H1 p = none → (∀ t ∈ ts, H1 t = none) → p ∉ ts → H' p = some (.lst (ts.map V.ref)) → Prz H' ts xs ys → Q (.ref p) H') : uLZ K ta σ H Q := h
end
/-- a pair of two of one reading -/
def Pr (H0 H1 : Hp) (d : D) (t : V) : Prop := ∃ a v w, t = .ref a ∧ H1 a = some (.tup [v, w]) ∧ Rep H0 d v ∧ Rep H0 d w
/-- a pile of such, of a size in all -/
inductive PrS (H0 H1 : Hp) : Nat → List V → Prop where
  | nil : PrS H0 H1 0 []
  | snoc {n : Nat} {ts : List V} {d : D} {t : V} (h : PrS H0 H1 n ts) (r : Pr H0 H1 d t) : PrS H0 H1 (n + d.size) (ts ++ [t])
theorem PrS.len {H0 H1 : Hp} {n : Nat} {ts : List V} (h : PrS H0 H1 n ts) : ts.length ≤ n := by
  induction h with
  | nil => exact Nat.le_refl _
  | @snoc n ts d t h r ih =>
    have := d.size_pos
    rw [List.length_append, List.length_singleton]
    omega
theorem PrS.tk {H0 H1 H2 : Hp} {n : Nat} {ts : List V} (e : Tk H1 H2) (h : PrS H0 H1 n ts) : PrS H0 H2 n ts := by
  induction h with
  | nil => exact .nil
  | snoc h r ih =>
    obtain ⟨a, v, w, rfl, ha, rv, rw'⟩ := r
    exact .snoc ih ⟨a, v, w, rfl, e _ _ ha, rv, rw'⟩
theorem PrS.ext {H0 H1 : Hp} : ∀ {ds : List D} {xs ys : List V} {tl : List Addr} {n : Nat} {ts : List V}, Reps H0 ds xs → Reps H0 ds ys → Prz H1 tl xs ys → PrS H0 H1 n ts → PrS H0 H1 (n + D.sizes ds) (ts ++ tl.map V.ref)
  | [], xs, ys, tl, n, ts, hx, hy, hp, h => by
    simp only [Reps] at hx hy
    subst hx
    have e : tl = [] := List.eq_nil_of_length_eq_zero hp.1
    subst e
    simpa [D.sizes] using h
  | d :: ds, xs, ys, tl, n, ts, hx, hy, hp, h => by
    simp only [Reps] at hx hy
    obtain ⟨x, xr, rfl, rx, hx⟩ := hx
    obtain ⟨y, yr, rfl, ry, hy⟩ := hy
    cases tl with
    | nil => cases hp.1
    | cons t tl =>
      obtain ⟨x', y', ex, ey, ht⟩ := hp.2 0 t rfl
      cases ex
      cases ey
      have hp' : Prz H1 tl xr yr := ⟨Nat.succ.inj hp.1, fun j u hu => by
        obtain ⟨a, b, q⟩ := hp.2 (j + 1) u hu
        exact ⟨a, b, q⟩⟩
      have z := PrS.ext hx hy hp' (h.snoc ⟨t, x, y, rfl, ht, rx, ry⟩)
      have e1 : n + D.sizes (d :: ds) = n + d.size + D.sizes ds := by simp only [D.sizes]; omega
      have e2 : ts ++ (t :: tl).map V.ref = ts ++ [V.ref t] ++ tl.map V.ref := by simp
      rw [e1, e2]
      exact z
/-- what the comparison promises -/
def spAlike : Sp := fun vs H Q _ => ∃ (d : D) (v w : V), vs = [v, w] ∧ Rep H d v ∧ Rep H d w ∧ d.size ≤ 400000 ∧ ∀ H', Ex H H' → Q (.bl true) H'
theorem prz_len {H : Hp} {ts : List Addr} {xs ys : List V} (h : Prz H ts xs ys) : (ts.map V.ref).length = xs.length := by rw [List.length_map]; exact h.1
theorem sizes_len : ∀ ds : List D, ds.length ≤ D.sizes ds
  | [] => Nat.le_refl _
  | d :: ds => by
    have := sizes_len ds
    have := d.size_pos
    simp only [D.sizes, List.length_cons]
    omega
/-! ### isinstance of a caught error -/
/-! ### lowest terms, as the laws find them -/
theorem max_fpt {u l : Int} (h : 0 < l) : max 1 (Int.gcd u l : Int) = fpt u l := by
  have g : 0 < Int.gcd u l := Nat.pos_of_ne_zero fun z => by
    have := (Int.gcd_eq_zero_iff.1 z).2
    omega
  unfold fpt
  rw [if_neg (by omega)]
  omega
theorem Rep.two {H : Hp} {a : Addr} {x y : V} {d e : D} (h : H a = some (.tup [x, y])) (r : Rep H d x) (s : Rep H e y) : Rep H (.tup [d, e]) (.ref a) := by
  simp only [Rep, Reps]
  exact ⟨a, _, rfl, h, x, _, rfl, r, y, _, rfl, s, rfl⟩
theorem Rep.three {H : Hp} {a : Addr} {x y z : V} {d e f : D} (h : H a = some (.tup [x, y, z])) (r : Rep H d x) (s : Rep H e y) (t : Rep H f z) : Rep H (.tup [d, e, f]) (.ref a) := by
  simp only [Rep, Reps]
  exact ⟨a, _, rfl, h, x, _, rfl, r, y, _, rfl, s, z, _, rfl, t, rfl⟩
theorem Rep.i {H : Hp} (n : Int) : Rep H (.int n) (.int n) := by simp only [Rep]
theorem Rep.s {H : Hp} (n : Str) : Rep H (.str n) (.str n) := by simp only [Rep]
theorem Rep.b {H : Hp} (n : Bool) : Rep H (.bl n) (.bl n) := by simp only [Rep]
theorem Rep.n {H : Hp} : Rep H .non .non := by simp only [Rep]
/-- a fraction of the laws, as it stands -/
def Fr (H : Hp) (p : Addr) (a b : Int) : Prop := H p = some (.tup [.int a, .int b]) ∧ Bits 300 a ∧ Bits 300 b ∧ 0 < b
/-- such a one, as a value -/
def Good (H : Hp) (v : V) : Prop := ∃ (p : Addr) (a b : Int), v = .ref p ∧ Fr H p a b
theorem Good.ex {H H' : Hp} {v : V} (e : Ex H H') (g : Good H v) : Good H' v := by
  obtain ⟨p, a, b, rfl, h, x⟩ := g
  exact ⟨p, a, b, rfl, e _ _ h, x⟩
theorem Good.tk {H H' : Hp} {v : V} (e : Tk H H') (g : Good H v) : Good H' v := by
  obtain ⟨p, a, b, rfl, h, x⟩ := g
  exact ⟨p, a, b, rfl, e _ _ h, x⟩
theorem Good.fr {H : Hp} {p : Addr} {u l : Int} (h : H p = some (.tup [.int (fru u l), .int (frl u l)])) (hl : l ≠ 0) (bu : Bits 300 u) (bl : Bits 300 l) : Good H (.ref p) := ⟨p, _, _, rfl, h, fru_bits hl bu, frl_bits hl bl, frl_pos hl⟩
section
variable {K : PySem.W.Frag} {H : Hp} {Q : VK} {σ : L2.St}
theorem g_sl {r : V → Option Int → Option Int → Hp → VK → Prop} {te : TE} {tl th : TO} (h : te σ H fun x H1 => tl σ H1 fun l H2 => th σ H2 fun u H3 => r x l u H3 Q) : tSl r te tl th σ H Q := h
theorem g_noP {P : Option Int → Hp → Prop} (h : P none H) : tNoPart σ H P := h
theorem g_catL {a b : Addr} {xs ys : List V} (ha : H a = some (.lst xs)) (hb : H b = some (.lst ys)) (hl : xs.length + ys.length ≤ 1000000) (h : ∀ p, H p = none → Q (.ref p) (upd H p (.lst (xs ++ ys)))) : uAdd K (.ref a) (.ref b) H Q :=
  .inl ⟨a, b, xs, ys, rfl, rfl, ha, hb, Nat.le_trans hl (by decide), h⟩
theorem g_part {te : TE} {P : Option Int → Hp → Prop} (h : te σ H fun x H1 => ∃ i, x = .int i ∧ P (some i) H1) : tPart te σ H P := h
theorem g_exI {i : Int} {P : Int → Prop} (h : P i) : ∃ j, V.int i = .int j ∧ P j := ⟨i, rfl, h⟩
end
theorem g_zipA {K : PySem.W.Frag} {ta : TA} {σ : L2.St} {H : Hp} {R : It → Hp → Prop} (h : ta σ H fun vs H1 => ∃ a b xs ys, vs = [.ref a, .ref b] ∧ ((SqL K H1 a xs ∧ SqL K H1 b ys ∧ R (Itz K a b) H1) ∨ (SqT K H1 a xs ∧ SqT K H1 b ys ∧ R (RZ.ItzT K a b) H1))) : RZ.iZipA K ta σ H R := h
end Bk
set_option Elab.async false
set_option linter.all false
set_option maxRecDepth 100000
set_option maxHeartbeats 4000000
/-! Bk9: enumerate over a tuple. -/
namespace Bk
open PySem PySem.Spec PyProof.Rows L2
open AutoSeq1 (wpAny_loadPart')
end Bk
set_option Elab.async false
set_option linter.all false
set_option maxRecDepth 100000
set_option maxHeartbeats 4000000
/-! Bk10: walks over enumerate; in, slices, tuple(..), join, all, dicts by readings that compute. -/
namespace Bk
open PySem PySem.Spec PyProof.Rows L2
section
variable {X : Cx}
/-- a slice of a text, a list, a tuple -/
def uSl (K : PySem.W.Frag) : V → Option Int → Option Int → Hp → VK → Prop := fun x lo hi H Q => match x with
  | .str z => z.length ≤ sizeLine ∧ Q (.str (cutS z lo hi)) H
  | .ref a => rSlL K (.ref a) lo hi H Q ∨ rSlA K (.ref a) lo hi H Q
  | _ => False
theorem us_sl : SlR X (uSl X.K) := by
  intro pins s σ H x v vl vu lo hi sl Q I rx hs pl pu h
  unfold uSl at h
  split at h
  · exact sl_str pins s σ H _ v vl vu lo hi sl Q I rx hs pl pu ⟨_, rfl, h⟩
  · exact (sl_list.or sl_tupA) pins s σ H _ v vl vu lo hi sl Q I rx hs pl pu h
  · exact h.elim
/-- tuple(xs), xs a list -/
def uTup (K : PySem.W.Frag) : List V → Hp → VK → Prop := fun xs H Q => match xs with
  | [.ref p] => ∃ ys, (SqL K H p ys ∧ ∀ l, H l = none → Q (.ref l) (upd H l (.tup ys))) ∨ (SqT K H p ys ∧ Q (.ref p) H)
  | _ => False
theorem uk_tup : CallR X (.type "tuple") (uTup X.K) := by
  intro pins s σ H xs us Q I r h
  unfold uTup at h
  split at h
  · obtain ⟨ys, h⟩ := h
    exact call_tuple_of pins s σ H _ us Q I r ⟨_, ys, rfl, h⟩
  · exact h.elim
end
section
variable {K : PySem.W.Frag} {H : Hp} {Q : VK} {σ : L2.St} {neg : Bool}
theorem g_lcU {wi : TI} {g : TG} {tt : TT} {te : TE} {vs : List Nat} (h : wi σ H fun J H1 => ∀ D, H1 D = none → ∃ W : Nat → Nat → Hp → Prop, (∃ m, W 0 m (upd H1 D (.lst []))) ∧ ∀ i m H, W i m H →
    (J.stop i H ∧ Q (.ref D) H) ∨ (J.go i H ∧ ∃ Nx : Hp → Prop, (∀ H', Nx H' → ∃ m', m' < m ∧ W (i + 1) m' H') ∧ ∀ x H', J.yld i H x H' → g x (wipe σ vs) H' fun σ2 H2 => wipe σ2 vs = wipe σ vs ∧ tt σ2 H2 fun b H3 =>
      if b = true then te σ2 H3 fun y H4 => ∃ acc, H4 D = some (.lst acc) ∧ acc.length < sizeLine ∧ Nx (upd H4 D (.lst (acc ++ [y]))) else Nx H3)) : tLc wi g tt te vs σ H Q := h
theorem g_yes {q : Bool → Hp → Prop} (h : q true H) : tYes σ H q := h
theorem g_slLU {a : Addr} {xs : List V} {lo hi : Option Int} (ha : H a = some (.lst xs)) (h : ∀ p, H p = none → Q (.ref p) (upd H p (.lst (cutV xs lo hi)))) : uSl K (.ref a) lo hi H Q := .inl ⟨a, xs, rfl, sqL ha, h⟩
theorem g_tupOf {p : Addr} {ys : List V} (hp : H p = some (.lst ys)) (h : ∀ l, H l = none → Q (.ref l) (upd H l (.tup ys))) : uTup K [.ref p] H Q := ⟨ys, .inl ⟨sqL hp, h⟩⟩
/-! dicts -/
section
variable {td ty tv tx : TE} {D : Ends} {p : Addr} {kvs : List (L2.Key × V)} {s : Str} {v z : V}
theorem g_dg (h : td σ H fun x H1 => ty σ H1 fun y H2 => ∃ a v, x = .ref a ∧ DGet H2 a y (some v) ∧ Q v H2) : tDGet td ty σ H Q := h
theorem g_di (h : ty σ H fun y H1 => td σ H1 fun x H2 => ∃ a o, x = .ref a ∧ DGet H2 a y o ∧ Q (.bl o.isSome) H2) : tDIn ty td σ H Q := h
theorem g_dni (h : ty σ H fun y H1 => td σ H1 fun x H2 => ∃ a o, x = .ref a ∧ DGet H2 a y o ∧ Q (.bl (!o.isSome)) H2) : tDNotIn ty td σ H Q := h
theorem g_dp (h : tv σ H fun v H1 => td σ H1 fun x H2 => ty σ H2 fun y H3 => ∃ a H4, x = .ref a ∧ DPut H3 a y v H4 ∧ D.nx σ H4) : sDPut td ty tv D σ H := h
theorem g_ds (h : td σ H fun x H1 => ∃ a, x = .ref a ∧ IsD H1 a ∧ ty σ H1 fun y H2 => tx σ H2 fun z H3 => ∃ (kvs : List (L2.Key × V)) (k : L2.Key), H3 a = some (.dK kvs) ∧ y = kV k ∧ kvs.length < sizeLine ∧
  (∀ v, valV kvs k = some v → Q v H3) ∧ (valV kvs k = none → Q z (upd H3 a (.dK (putK kvs k z))))) : tDSetd td ty tx σ H Q := h
end
end
/-! ### names and woods -/
def lettersS : Str := "abcdefghijklmnopqrstuvwxyz"
def isName (s : Str) : Bool := !decide (s = "kind") && decide (1 ≤ s.length ∧ s.length ≤ 6) && s.cps.toList.all fun c => decide (c ∈ lettersS.cps.toList)
/-- kind, its makers: name and parts -/
abbrev Mk := Str × List Str
abbrev Wd := List (Str × List Mk)
def partsD (ps : List Str) : D := .tup (ps.map D.str)
def mkD (m : Mk) : D := .tup [.str m.1, partsD m.2]
def kindD (k : Str × List Mk) : D := .tup [.str k.1, .tup (k.2.map mkD)]
def woodD (w : Wd) : D := .tup (w.map kindD)
theorem Rep.tupI {H : Hp} {ds : List D} {v : V} (h : Rep H (.tup ds) v) : ∃ a xs, v = .ref a ∧ H a = some (.tup xs) ∧ Reps H ds xs := by simpa only [Rep] using h
/-! ### comprehensions that map -/
section
variable {J : It} {n : Nat} {G : Hp → Prop} {Y : Nat → Hp → V → Hp → Prop} {g : TG} {te : TE} {vs : List Nat} {σ : L2.St} {H1 : Hp} {D : Addr} {Qd : Hp → Prop}
/-- nothing but new objects; R of each item -/
theorem lc_mapE (w : Walk J n G Y) (R : Nat → Hp → V → Prop) (hn : n ≤ 16000000) (hD : H1 D = none) (hR : ∀ j H H' v, Tk H H' → R j H v → R j H' v) (hG : ∀ H, Ex H1 H → G H)
    (hs : ∀ i x H H' (P : VK) (N : Hp → Prop), i < n → Ex H1 H → Y i H x H' → (∀ y H4, Ex H H4 → R i H4 y → P y H4) → g x (wipe σ vs) H' fun σ2 H2 => wipe σ2 vs = wipe σ vs ∧ tYes σ2 H2 fun b H3 => if b = true then te σ2 H3 P else N H3)
    (hd : ∀ H' acc, Ex H1 H' → H' D = some (.lst acc) → acc.length = n → (∀ j v, acc[j]? = some v → R j H' v) → Qd H') :
    ∃ W : Nat → Nat → Hp → Prop, (∃ m, W 0 m (upd H1 D (.lst []))) ∧ ∀ i m H, W i m H →
      (J.stop i H ∧ Qd H) ∨ (J.go i H ∧ ∃ Nx : Hp → Prop, (∀ H', Nx H' → ∃ m', m' < m ∧ W (i + 1) m' H') ∧ ∀ x H', J.yld i H x H' → g x (wipe σ vs) H' fun σ2 H2 => wipe σ2 vs = wipe σ vs ∧ tYes σ2 H2 fun b H3 =>
        if b = true then te σ2 H3 fun y H4 => ∃ acc, H4 D = some (.lst acc) ∧ acc.length < sizeLine ∧ Nx (upd H4 D (.lst (acc ++ [y]))) else Nx H3) := by
  refine lc_it w (fun i H => Ex H1 H ∧ ∃ acc, H D = some (.lst acc) ∧ acc.length = i ∧ ∀ j v, acc[j]? = some v → R j H v) ⟨Ex.new hD, [], upd_same, rfl, fun j v z => by simp at z⟩ (fun i H _ p => hG H p.1) ?_ fun H p => ?_
  · rintro i x H H' hi ⟨e, acc, ha, hl, hr⟩ y
    refine hs i x H H' _ _ hi e y fun u H4 e4 r4 => ?_
    have a4 := e4 _ _ ha
    refine ⟨acc, a4, Nat.lt_of_le_of_lt (by omega : acc.length ≤ 16000000) (by decide), (e.trans e4).at_new hD, _, upd_same, by rw [List.length_append, hl]; rfl, fun j v hj => ?_⟩
    have b5 : Tk H4 (upd H4 D (.lst (acc ++ [u]))) := ((But.refl D H4).upd).tkl a4
    by_cases c : j < acc.length
    · rw [List.getElem?_append_left c] at hj
      exact hR _ _ _ _ b5 (hR _ _ _ _ e4.tk (hr j v hj))
    · rw [List.getElem?_append_right (by omega)] at hj
      have ej : j = i := by
        have := (List.getElem?_eq_some_iff.1 hj).1
        simp at this
        omega
      subst ej
      rw [hl, Nat.sub_self] at hj
      cases hj
      exact hR _ _ _ _ b5 r4
  · obtain ⟨e, acc, ha, hl, hr⟩ := p
    exact hd H acc e ha hl hr
end
end Bk
set_option Elab.async false
set_option linter.all false
set_option maxRecDepth 100000
set_option maxHeartbeats 4000000
/-! Bk11: a list's +=; equality by data; dicts of pairs; maps with draws. -/
namespace Bk
open PySem PySem.Spec PyProof.Rows L2
/-! ### kinds and makers by name -/
/-- (name, number) -/
def kvsFrom : Nat → Wd → List (L2.Key × V)
  | _, [] => []
  | n, k :: r => (.inr k.1, .int (n : Nat)) :: kvsFrom (n + 1) r
/-- makers' names, in order -/
def mkNames (w : Wd) : List Str := (w.map fun k => k.2.map Prod.fst).flatten
/-! ### the makers' table -/
/-- the number of a kind by its name -/
def kno (w : Wd) (s : Str) : Int := match valV (mergeK [] (kvsFrom 0 w)) (.inr s) with
  | some (.int i) => i
  | _ => 0
def tabFrom : Nat → Wd → List (Nat × Mk)
  | _, [] => []
  | n, k :: r => k.2.map (fun m => (n, m)) ++ tabFrom (n + 1) r
theorem tab_split : ∀ (w : Wd) (n i : Nat) (k : Str × List Mk), w[i]? = some k → tabFrom n w = tabFrom n (w.take i) ++ k.2.map (fun m => (n + i, m)) ++ tabFrom (n + i + 1) (w.drop (i + 1))
  | [], n, i, k, h => by simp at h
  | a :: w, n, 0, k, h => by
    cases h
    simp [tabFrom]
  | a :: w, n, i + 1, k, h => by
    have z := tab_split w (n + 1) i k h
    have e : n + 1 + i = n + (i + 1) := by omega
    simp only [tabFrom, List.take_succ_cons, List.drop_succ_cons, z, e, List.append_assoc]
theorem tab_mem : ∀ (w : Wd) (n i : Nat) (k : Str × List Mk) (m : Mk), w[i]? = some k → m ∈ k.2 → (n + i, m) ∈ tabFrom n w := fun w n i k m h hm => by
  rw [tab_split w n i k h]
  exact List.mem_append_left _ (List.mem_append_right _ (List.mem_map.2 ⟨m, hm, rfl⟩))
def EntryAt (w : Wd) (H : Hp) (kvs : List (L2.Key × V)) (e : Nat × Mk) : Prop := ∃ p t, valV kvs (.inr e.2.1) = some (.ref p) ∧ H p = some (.tup [.int (e.1 : Nat), .ref t]) ∧ H t = some (.tup (e.2.2.map fun s => .int (kno w s)))
def TabOk (w : Wd) (H : Hp) (kvs : List (L2.Key × V)) (L : List (Nat × Mk)) : Prop := kvs.length ≤ L.length ∧ ∀ e ∈ L, EntryAt w H kvs e
theorem TabOk.tk {w : Wd} {H H' : Hp} {kvs : List (L2.Key × V)} {L : List (Nat × Mk)} (t : Tk H H') (h : TabOk w H kvs L) : TabOk w H' kvs L := ⟨h.1, fun e he => by
  obtain ⟨p, q, a, b, c⟩ := h.2 e he
  exact ⟨p, q, a, t _ _ b, t _ _ c⟩⟩
theorem g_dnew {σ : L2.St} {H : Hp} {Q : VK} (h : ∀ p, H p = none → Q (.ref p) (upd H p (.dK []))) : tDNewK σ H Q := h
/-! ### a wood that is let by -/
structure WoodOk (w : Wd) : Prop where
  kinds : 1 ≤ w.length ∧ w.length ≤ 4
  name : ∀ k ∈ w, isName k.1 = true
  knd : (w.map Prod.fst).Nodup
  mkr : ∀ k ∈ w, ∀ m ∈ k.2, isName m.1 = true ∧ m.2.length ≤ 2 ∧ ∀ s ∈ m.2, s ∈ w.map Prod.fst
  nd : ((tabFrom 0 w).map fun e => e.2.1).Nodup
  many : (tabFrom 0 w).length ≤ 12
def KeysIn (kvs : List (L2.Key × V)) (L : List Str) : Prop := kvs.length ≤ L.length ∧ (∀ s, (valV kvs (.inr s)).isSome = true ↔ s ∈ L)
theorem KeysIn.none {kvs : List (L2.Key × V)} {L : List Str} {s : Str} (h : KeysIn kvs L) (hn : s ∉ L) : valV kvs (.inr s) = none := by
  cases e : valV kvs (.inr s) with
  | none => rfl
  | some v => exact absurd ((h.2 s).1 (by rw [e]; rfl)) hn
/-! ### maps with draws -/
theorem Box.tk {H H' : Hp} {p : Addr} (b : Box H p) (e : But p H H') : Tk H H' := by
  obtain ⟨_, _, _, h⟩ := b
  exact e.tkl h
theorem Box.ne {H : Hp} {p q : Addr} (b : Box H p) (h : H q = none) : q ≠ p := fun z => by
  obtain ⟨_, _, _, hp⟩ := b
  rw [← z, h] at hp
  cases hp
theorem Box.at_upd {H : Hp} {p q : Addr} {o : HO} (b : Box H p) (h : q ≠ p) : Box (upd H q o) p := by
  obtain ⟨x, y, z, hp⟩ := b
  exact ⟨x, y, z, by rw [upd_ne (Ne.symm h)]; exact hp⟩
theorem But.at_new {p q : Addr} {H H' : Hp} {o : HO} (e : But p H H') (h : H q = none) : But p H (L2.upd H' q o) := fun a u na hu => by
  rw [upd_ne (ne_of_none hu h)]
  exact e a u na hu
section
variable {J : It} {n : Nat} {G : Hp → Prop} {Y : Nat → Hp → V → Hp → Prop} {g : TG} {te : TE} {vs : List Nat} {σ : L2.St} {H1 : Hp} {D : Addr} {Qd : Hp → Prop}
theorem lc_mapB (w : Walk J n G Y) (p : Addr) (R : Nat → Hp → V → Prop) (hn : n ≤ 1000000) (hD : H1 D = none) (hB : Box H1 p) (hR : ∀ j H H' v, Tk H H' → R j H v → R j H' v) (hG : ∀ H, But p H1 H → G H)
    (hs : ∀ i x H H' (P : VK) (N : Hp → Prop), i < n → But p H1 H → Box H p → Y i H x H' → (∀ y H4, But p H H4 → Box H4 p → R i H4 y → P y H4) → g x (wipe σ vs) H' fun σ2 H2 => wipe σ2 vs = wipe σ vs ∧ tYes σ2 H2 fun b H3 => if b = true then te σ2 H3 P else N H3)
    (hd : ∀ H' acc, But p H1 H' → Box H' p → H' D = some (.lst acc) → acc.length = n → (∀ j v, acc[j]? = some v → R j H' v) → Qd H') :
    ∃ W : Nat → Nat → Hp → Prop, (∃ m, W 0 m (upd H1 D (.lst []))) ∧ ∀ i m H, W i m H →
      (J.stop i H ∧ Qd H) ∨ (J.go i H ∧ ∃ Nx : Hp → Prop, (∀ H', Nx H' → ∃ m', m' < m ∧ W (i + 1) m' H') ∧ ∀ x H', J.yld i H x H' → g x (wipe σ vs) H' fun σ2 H2 => wipe σ2 vs = wipe σ vs ∧ tYes σ2 H2 fun b H3 =>
        if b = true then te σ2 H3 fun y H4 => ∃ acc, H4 D = some (.lst acc) ∧ acc.length < sizeLine ∧ Nx (upd H4 D (.lst (acc ++ [y]))) else Nx H3) := by
  have nD := hB.ne hD
  refine lc_it w (fun i H => But p H1 H ∧ Box H p ∧ ∃ acc, H D = some (.lst acc) ∧ acc.length = i ∧ ∀ j v, acc[j]? = some v → R j H v) ⟨(Ex.new hD).but p, hB.at_upd nD, [], upd_same, rfl, fun j v z => by simp at z⟩ (fun i H _ h => hG H h.1) ?_ fun H h => ?_
  · rintro i x H H' hi ⟨e, b, acc, ha, hl, hr⟩ y
    refine hs i x H H' _ _ hi e b y fun u H4 e4 b4 r4 => ?_
    have a4 := e4 _ _ nD ha
    have t4 := b.tk e4
    refine ⟨acc, a4, Nat.lt_of_le_of_lt (by omega : acc.length ≤ 1000000) (by decide), (e.trans e4).at_new hD, b4.at_upd nD, _, upd_same, by rw [List.length_append, hl]; rfl, fun j v hj => ?_⟩
    have b5 : Tk H4 (upd H4 D (.lst (acc ++ [u]))) := ((But.refl D H4).upd).tkl a4
    by_cases c : j < acc.length
    · rw [List.getElem?_append_left c] at hj
      exact hR _ _ _ _ b5 (hR _ _ _ _ t4 (hr j v hj))
    · rw [List.getElem?_append_right (by omega)] at hj
      have ej : j = i := by
        have := (List.getElem?_eq_some_iff.1 hj).1
        simp at this
        omega
      subst ej
      rw [hl, Nat.sub_self] at hj
      cases hj
      exact hR _ _ _ _ b5 r4
  · obtain ⟨e, b, acc, ha, hl, hr⟩ := h
    exact hd H acc e b ha hl hr
end
/-! ### the comparison where no list stands -/
inductive PrH (H0 H1 : Hp) : Nat → List V → Prop where
  | nil : PrH H0 H1 0 []
  | snoc {n : Nat} {ts : List V} {d : D} {t : V} (h : PrH H0 H1 n ts) (r : Pr H0 H1 d t) (k : d.hard = true) : PrH H0 H1 (n + d.size) (ts ++ [t])
theorem PrH.len {H0 H1 : Hp} {n : Nat} {ts : List V} (h : PrH H0 H1 n ts) : ts.length ≤ n := by
  induction h with
  | nil => exact Nat.le_refl _
  | @snoc n ts d t h r k ih =>
    have := d.size_pos
    rw [List.length_append, List.length_singleton]
    omega
theorem PrH.tk {H0 H1 H2 : Hp} {n : Nat} {ts : List V} (e : Tk H1 H2) (h : PrH H0 H1 n ts) : PrH H0 H2 n ts := by
  induction h with
  | nil => exact .nil
  | snoc h r k ih =>
    obtain ⟨a, v, w, rfl, ha, rv, rw'⟩ := r
    exact .snoc ih ⟨a, v, w, rfl, e _ _ ha, rv, rw'⟩ k
theorem PrH.ext {H0 H1 : Hp} : ∀ {ds : List D} {xs ys : List V} {tl : List Addr} {n : Nat} {ts : List V}, Reps H0 ds xs → Reps H0 ds ys → D.hards ds = true → Prz H1 tl xs ys → PrH H0 H1 n ts → PrH H0 H1 (n + D.sizes ds) (ts ++ tl.map V.ref)
  | [], xs, ys, tl, n, ts, hx, hy, _, hp, h => by
    simp only [Reps] at hx hy
    subst hx
    have e : tl = [] := List.eq_nil_of_length_eq_zero hp.1
    subst e
    simpa [D.sizes] using h
  | d :: ds, xs, ys, tl, n, ts, hx, hy, hh, hp, h => by
    simp only [Reps] at hx hy
    simp only [D.hards, Bool.and_eq_true] at hh
    obtain ⟨x, xr, rfl, rx, hx⟩ := hx
    obtain ⟨y, yr, rfl, ry, hy⟩ := hy
    cases tl with
    | nil => cases hp.1
    | cons t tl =>
      obtain ⟨x', y', ex, ey, ht⟩ := hp.2 0 t rfl
      cases ex
      cases ey
      have hp' : Prz H1 tl xr yr := ⟨Nat.succ.inj hp.1, fun j u hu => by
        obtain ⟨a, b, q⟩ := hp.2 (j + 1) u hu
        exact ⟨a, b, q⟩⟩
      have z := PrH.ext hx hy hh.2 hp' (h.snoc ⟨t, x, y, rfl, ht, rx, ry⟩ hh.1)
      have e1 : n + D.sizes (d :: ds) = n + d.size + D.sizes ds := by simp only [D.sizes]; omega
      have e2 : ts ++ (t :: tl).map V.ref = ts ++ [V.ref t] ++ tl.map V.ref := by simp
      rw [e1, e2]
      exact z
end Bk
set_option Elab.async false
set_option linter.all false
set_option maxRecDepth 100000
set_option maxHeartbeats 4000000
/-! Bk12: texts joined, cut; lists of texts compared. -/
namespace Bk
open PySem PySem.Spec PyProof.Rows L2
def one (c : Nat) : Str := ⟨#[c]⟩
theorem str_len (s : Str) : s.length = s.cps.toList.length := by
  show s.cps.size = _
  simp
section
variable {K : PySem.W.Frag} {H : Hp} {Q : VK} {σ : L2.St}
theorem g_tyS {P : Prop} {a : Str} (h : P) : (∃ b, V.str a = .str b) ∧ P := ⟨⟨a, rfl⟩, h⟩
/-! lists of texts compared -/
end
/-- any text of the laws -/
def TextOk (s : Str) : Prop := s.length ≤ 1000 ∧ ∀ c ∈ s.cps.toList, c < 0x110000
instance instTextOk (s : Str) : Decidable (TextOk s) := inferInstanceAs (Decidable (s.length ≤ 1000 ∧ ∀ c ∈ s.cps.toList, c < 0x110000))
theorem atI_ex {α : Type} {l : List α} {j : Int} (h0 : 0 ≤ j) (h1 : j < l.length) : ∃ x, atI l j = some x ∧ l[j.toNat]? = some x := by
  have hj : j.toNat < l.length := by omega
  refine ⟨l[j.toNat], ?_, List.getElem?_eq_getElem hj⟩
  have z := atI_nat (List.getElem?_eq_getElem hj)
  rwa [Int.toNat_of_nonneg h0] at z
end Bk
set_option Elab.async false
set_option linter.all false
set_option maxRecDepth 100000
set_option maxHeartbeats 4000000
/-! Bk13: names drawn. -/
namespace Bk
open PySem PySem.Spec PyProof.Rows L2
theorem letters_list : lettersS.cps.toList = (List.range 26).map (97 + ·) := by decide +kernel
theorem letters_mem {c : Nat} : c ∈ lettersS.cps.toList ↔ ∃ i, i < 26 ∧ c = 97 + i := by
  rw [letters_list, List.mem_map]
  constructor
  · rintro ⟨i, hi, rfl⟩
    exact ⟨i, List.mem_range.1 hi, rfl⟩
  · rintro ⟨i, hi, rfl⟩
    exact ⟨i, List.mem_range.2 hi, rfl⟩
/-- small letters alone -/
def Low (s : Str) : Prop := ∀ c ∈ s.cps.toList, c ∈ lettersS.cps.toList
theorem isName_low {s : Str} (h : isName s = true) : Low s := by
  unfold isName at h
  simp only [Bool.and_eq_true, List.all_eq_true, decide_eq_true_eq] at h
  exact h.2
theorem low_ok {s : Str} (h : Low s) : ∀ c ∈ s.cps.toList, c < 0x110000 := fun c hc => by
  obtain ⟨i, hi, rfl⟩ := letters_mem.1 (h c hc)
  omega
theorem app_list (s t : Str) : (s ++ t).cps.toList = s.cps.toList ++ t.cps.toList := by
  show (s.cps ++ t.cps).toList = _
  simp
theorem app_len (s t : Str) : (s ++ t).length = s.length + t.length := by
  rw [str_len, str_len, str_len, app_list, List.length_append]
section
variable {K : PySem.W.Frag} {H : Hp} {Q : VK} {σ : L2.St}
theorem g_bmS {T : String} {r : L2.St → V → List V → Hp → VK → Prop} {to : TE} {t : TA} (h : to σ H fun x H1 => tyV K T x H1 ∧ t σ H1 fun xs H2 => r σ x xs H2 Q) : tBMS K T r to t σ H Q := h
theorem g_tyStr {z : Str} {P : Prop} (h : P) : tyV K "str" (.str z) H ∧ P := ⟨rfl, h⟩
end
end Bk
set_option Elab.async false
set_option linter.all false
set_option maxRecDepth 100000
set_option maxHeartbeats 4000000
/-! Bk14: the laws' makers. -/
namespace Bk
open PySem PySem.Spec PyProof.Rows L2
def DueAt (w : Wd) (H : Hp) (e : Nat × Mk) (v : V) : Prop := ∃ p t, v = .ref p ∧ H p = some (.tup [.str e.2.1, .int (e.1 : Nat), .ref t]) ∧ H t = some (.tup (e.2.2.map fun s => .int (kno w s)))
theorem DueAt.tk {w : Wd} {H H' : Hp} {e : Nat × Mk} {v : V} (t : Tk H H') (h : DueAt w H e v) : DueAt w H' e v := by
  obtain ⟨p, q, a, b, c⟩ := h
  exact ⟨p, q, a, t _ _ b, t _ _ c⟩
/-- a list of such -/
def Dues (w : Wd) (H : Hp) (L : List (Nat × Mk)) (vs : List V) : Prop := vs.length = L.length ∧ ∀ (j : Nat) (v : V), vs[j]? = some v → ∃ e, L[j]? = some e ∧ DueAt w H e v
theorem Dues.tk {w : Wd} {H H' : Hp} {L : List (Nat × Mk)} {vs : List V} (t : Tk H H') (h : Dues w H L vs) : Dues w H' L vs := ⟨h.1, fun j v hj => by
  obtain ⟨e, a, b⟩ := h.2 j v hj
  exact ⟨e, a, b.tk t⟩⟩
/-- the first place of a kind's name -/
theorem kno_at : ∀ (w : Wd) (n i : Nat) (k : Str × List Mk) (kvs : List (L2.Key × V)), (w.map Prod.fst).Nodup → w[i]? = some k → valV (mergeK kvs (kvsFrom n w)) (.inr k.1) = some (.int ((n + i : Nat) : Int))
  | [], n, i, k, kvs, _, h => by simp at h
  | a :: w, n, 0, k, kvs, hn, h => by
    cases h
    show valV (mergeK (putK kvs (.inr a.1) (.int (n : Nat))) (kvsFrom (n + 1) w)) (.inr a.1) = _
    have h1 := (List.nodup_cons.1 hn).1
    have z : ∀ (w : Wd) (n : Nat) (kvs : List (L2.Key × V)) (s : Str), s ∉ w.map Prod.fst → valV (mergeK kvs (kvsFrom n w)) (.inr s) = valV kvs (.inr s) := by
      intro w
      induction w with
      | nil => intro n kvs s _; rfl
      | cons b w ih =>
        intro n kvs s hs
        show valV (mergeK (putK kvs (.inr b.1) (.int (n : Nat))) (kvsFrom (n + 1) w)) (.inr s) = _
        rw [List.map_cons, List.mem_cons, not_or] at hs
        rw [ih (n + 1) _ s hs.2, valV_put, if_neg fun e => hs.1 (Sum.inr.inj e)]
    rw [z w (n + 1) _ a.1 h1, valV_put, if_pos rfl]
    rfl
  | a :: w, n, i + 1, k, kvs, hn, h => by
    show valV (mergeK (putK kvs (.inr a.1) (.int (n : Nat))) (kvsFrom (n + 1) w)) (.inr k.1) = _
    rw [kno_at w (n + 1) i k _ (List.nodup_cons.1 hn).2 h]
    congr 2
    omega
theorem kno_idx {w : Wd} {i : Nat} {k : Str × List Mk} (hn : (w.map Prod.fst).Nodup) (h : w[i]? = some k) : kno w k.1 = (i : Nat) := by
  unfold kno
  rw [kno_at w 0 i k [] hn h]
  simp
theorem tab_names : ∀ (w : Wd) (n : Nat), (tabFrom n w).map (fun e => e.2.1) = mkNames w
  | [], n => rfl
  | k :: w, n => by
    show List.map _ (k.2.map (fun m => (n, m)) ++ tabFrom (n + 1) w) = (List.map _ (k :: w)).flatten
    rw [List.map_append, tab_names w (n + 1), List.map_map, List.map_cons, List.flatten_cons]
    rfl
theorem intsReps {H : Hp} : ∀ is : List Int, Reps H (is.map D.int) (is.map V.int)
  | [] => by simp only [List.map, Reps]
  | i :: is => by
    simp only [List.map, Reps]
    exact ⟨_, _, rfl, Rep.i i, intsReps is⟩
theorem ints_hard : ∀ is : List Int, D.hards (is.map D.int) = true
  | [] => rfl
  | i :: is => by
    show (D.hard (.int i) && D.hards (is.map D.int)) = true
    rw [ints_hard is]
    rfl
theorem Rep.ints {H : Hp} {t : Addr} {is : List Int} (h : H t = some (.tup (is.map V.int))) : Rep H (.tup (is.map D.int)) (.ref t) := by
  simp only [Rep]
  exact ⟨t, _, rfl, h, intsReps is⟩
section
variable {K : PySem.W.Frag} {H : Hp} {Q : VK} {σ : L2.St}
theorem g_clear {l : Addr} {xs : List V} (hl : H l = some (.lst xs)) (h : Q .non (upd H l (.lst []))) : rClear (.ref l) [] H Q := ⟨l, xs, rfl, rfl, hl, h⟩
end
theorem WoodOk.low {w : Wd} (h : WoodOk w) : ∀ s ∈ mkNames w, isName s = true := fun s hs => by
  unfold mkNames at hs
  obtain ⟨l, hl, hs⟩ := List.mem_flatten.1 hs
  obtain ⟨k, hk, rfl⟩ := List.mem_map.1 hl
  obtain ⟨m, hm, rfl⟩ := List.mem_map.1 hs
  exact (h.mkr k hk m hm).1
theorem WoodOk.names {w : Wd} (h : WoodOk w) : (mkNames w).length ≤ 12 := by rw [← tab_names w 0, List.length_map]; exact h.many
theorem WoodOk.row {w : Wd} (h : WoodOk w) : ∀ k ∈ w, k.2.length ≤ 1000 := fun k hk => by
  obtain ⟨i, hi⟩ := List.mem_iff_getElem?.1 hk
  have := h.many
  rw [tab_split w 0 i k hi, List.length_append, List.length_append, List.length_map] at this
  omega
theorem strs_hard : ∀ ss : List Str, D.hards (ss.map D.str) = true
  | [] => rfl
  | s :: ss => by
    show (D.hard (.str s) && D.hards (ss.map D.str)) = true
    rw [strs_hard ss]
    rfl
theorem mks_hard : ∀ ms : List Mk, D.hards (ms.map mkD) = true
  | [] => rfl
  | m :: ms => by
    show (D.hard (mkD m) && D.hards (ms.map mkD)) = true
    rw [mks_hard ms, Bool.and_true]
    show (D.hard (.str m.1) && (D.hards (m.2.map D.str) && true)) = true
    rw [strs_hard]
    rfl
theorem kinds_hard : ∀ w : Wd, D.hards (w.map kindD) = true
  | [] => rfl
  | k :: w => by
    show (D.hard (kindD k) && D.hards (w.map kindD)) = true
    rw [kinds_hard w, Bool.and_true]
    show (D.hard (.str k.1) && (D.hards (k.2.map mkD) && true)) = true
    rw [mks_hard]
    rfl
theorem wood_hard (w : Wd) : (woodD w).hard = true := by
  show D.hards (w.map kindD) = true
  exact kinds_hard w
/-! ### the rows of a wood that is drawn -/
structure Rows (H : Hp) (ras : List Addr) (R : List (List Mk)) : Prop where
  len : ras.length = R.length
  nd : ras.Nodup
  at_ : ∀ (q : Nat) (a : Addr) (r : List Mk), ras[q]? = some a → R[q]? = some r → ∃ us, H a = some (.lst us) ∧ Reps H (r.map mkD) us
theorem Rows.get {H : Hp} {ras : List Addr} {R : List (List Mk)} (h : Rows H ras R) {q : Nat} (hq : q < R.length) : ∃ a r us, ras[q]? = some a ∧ R[q]? = some r ∧ H a = some (.lst us) ∧ Reps H (r.map mkD) us := by
  have hq2 : q < ras.length := by rw [h.len]; exact hq
  obtain ⟨us, a, b⟩ := h.at_ q _ _ (List.getElem?_eq_getElem hq2) (List.getElem?_eq_getElem hq)
  exact ⟨_, _, us, List.getElem?_eq_getElem hq2, List.getElem?_eq_getElem hq, a, b⟩
/-- what keeps the lists at ras and all tuples -/
theorem Rows.keep {H H' : Hp} {ras : List Addr} {R : List (List Mk)} (h : Rows H ras R) (t : Tk H H') (k : ∀ a ∈ ras, ∀ us, H a = some (.lst us) → H' a = some (.lst us)) : Rows H' ras R := ⟨h.len, h.nd, fun q a r ha hr => by
  obtain ⟨us, hu, rs⟩ := h.at_ q a r ha hr
  exact ⟨us, k a (List.mem_of_getElem? ha) us hu, rs.tk t (mks_hard r)⟩⟩
end Bk
set_option Elab.async false
set_option linter.all false
set_option maxRecDepth 100000
set_option maxHeartbeats 4000000
/-! Bk15: own errors with fields over ValueError. -/
namespace Bk
open PySem PySem.Spec PyProof.Rows L2
end Bk
set_option Elab.async false
set_option linter.all false
set_option maxRecDepth 100000
set_option maxHeartbeats 4000000
/-! Bk16: what a wood is refused for. -/
namespace Bk
open PySem PySem.Spec PyProof.Rows L2
end Bk
set_option Elab.async false
set_option linter.all false
set_option maxRecDepth 100000
set_option maxHeartbeats 4000000
/-! Bk17: caught errors with fields, isinstance by a tuple of classes; texts and tuples times a number. -/
namespace Bk
open PySem PySem.Spec PyProof.Rows L2
theorem vals_refs : ∀ {Cs : List Addr} {us : List Value}, Vals (Cs.map V.ref) us → us = Cs.map Value.ref
  | [], us, h => by cases h; rfl
  | C :: Cs, us, h => by
    cases h with
    | cons r rr =>
      cases (show _ = Value.ref C from r)
      rw [vals_refs rr]
      rfl
def rListOf (K : PySem.W.Frag) : List V → Hp → VK → Prop := fun xs H Q => ∃ p ys, xs = [.ref p] ∧ (SqL K H p ys ∨ SqT K H p ys) ∧ ∀ l, H l = none → Q (.ref l) (upd H l (.lst ys))
theorem uk_list {X : Cx} : CallR X (.type "list") (rListOf X.K) := call_list_of
section
variable {X : Cx}
theorem tuple_mul0 (l : Addr) (items : Array Value) (n : Nat) (dd : Option Addr) (sl : Array (Option Value)) (u : Tok) (c1 : (items.isEmpty || (0 : Int) == 1) = false) :
    Meets (Builtin.«tuple.__mul__» ⟨[.ref l, .int 0 u], []⟩) (fun _ R s => s.heap.get? l = some { cls := .type "tuple", dict := dd, data := .seq items n, slots := sl } ∧
      R (.ok (.ret (Value.ref s.heap.objs.size))) { s with heap := s.heap.push { cls := Value.type "tuple", data := Data.seq #[] }, toks := s.toks }) :=
  .of_wp fun prog w A R s h => by
    obtain ⟨hp, g, d, tk, os⟩ := s
    obtain ⟨hl, h⟩ := h
    have f1 := AutoSeq1.idx_int
    wp_walk using wpAny_loadPart' hl
    repeat (first
      | (refine wpAny_ite_false (decide_eq_false (by decide)) ?_; wp_walk using wpAny_loadPart' hl)
      | (refine wpAny_ite_false (decide_eq_false (by rw [c1]; exact Bool.false_ne_true)) ?_; wp_walk using wpAny_loadPart' hl)
      | (refine wpAny_ite_true (by simp) ?_; wp_walk using wpAny_loadPart' hl))
    exact ⟨_, rfl, h⟩
end
section
variable {K : PySem.W.Frag} {H : Hp} {Q : VK} {σ : L2.St}
theorem g_listL {p : Addr} {ys : List V} (hp : H p = some (.lst ys)) (h : ∀ l, H l = none → Q (.ref l) (upd H l (.lst ys))) : rListOf K [.ref p] H Q := ⟨p, ys, rfl, .inl (sqL hp), h⟩
/-- t + u, tuples -/
theorem g_catT {a b : Addr} {xs ys : List V} (ha : H a = some (.tup xs)) (hb : H b = some (.tup ys)) (hl : xs.length + ys.length ≤ 1000000) (h : ∀ p H', Ex H H' → H' p = some (.tup (xs ++ ys)) → Q (.ref p) H') : uAdd K (.ref a) (.ref b) H Q := by
  refine .inr ⟨a, b, xs, ys, rfl, rfl, sqT ha, sqT hb, Nat.le_trans hl (by decide), fun e => ?_, fun e f => ?_, fun e f p hp => h p _ (Ex.new hp) upd_same⟩
  · subst e
    exact h b H (Ex.refl _) hb
  · subst f
    exact h a H (Ex.refl _) (by rw [List.append_nil]; exact ha)
end
end Bk
set_option Elab.async false
set_option linter.all false
set_option maxRecDepth 100000
set_option maxHeartbeats 4000000
/-! Bk18: woods of any kind, let by or refused. -/
namespace Bk
open PySem PySem.Spec PyProof.Rows L2
theorem TextOk.le {s : Str} (h : TextOk s) : s.length ≤ 100000 := Nat.le_trans h.1 (by decide)
theorem isName_text {s : Str} (h : isName s = true) : TextOk s := by
  have h2 := low_ok (isName_low h)
  unfold isName at h
  simp only [Bool.and_eq_true, decide_eq_true_eq] at h
  exact ⟨by omega, h2⟩
def KeysX (kvs : List (L2.Key × V)) (L : List Str) : Prop := kvs.length = L.length ∧ (∀ s, (valV kvs (.inr s)).isSome = true ↔ s ∈ L)
theorem KeysX.none {kvs : List (L2.Key × V)} {L : List Str} {s : Str} (h : KeysX kvs L) (hn : s ∉ L) : valV kvs (.inr s) = none := by
  cases e : valV kvs (.inr s) with
  | none => rfl
  | some v => exact absurd ((h.2 s).1 (by rw [e]; rfl)) hn
theorem take_at {α : Type} {l : List α} {i : Nat} {x : α} (h : l[i]? = some x) : l.take (i + 1) = l.take i ++ [x] := by
  rw [List.take_add_one, h]
  rfl
end Bk
set_option Elab.async false
set_option linter.all false
set_option maxRecDepth 100000
set_option maxHeartbeats 4000000
/-! Bk19: a wood laid out as lists, by the sorts of its objects. -/
namespace Bk
open PySem PySem.Spec PyProof.Rows L2
abbrev Sorts := Addr → Nat
/-- an object of a sort: 1 a kind's row, 2 a list of makers, 3 a maker -/
def Sorted (n : Nat) (c : Sorts) (H : Hp) (k : Nat) (o : HO) : Prop :=
  (k = 1 → ∃ (s : Str) (b : Addr), o = .lst [.str s, .ref b] ∧ TextOk s ∧ c b = 2) ∧
  (k = 2 → ∃ xs : List V, o = .lst xs ∧ xs.length ≤ 12 + 5 * n ∧ ∀ x ∈ xs, ∃ b, x = .ref b ∧ c b = 3) ∧
  (k = 3 → ∃ (s : Str) (t : Addr) (ps : List Str), o = .lst [.str s, .ref t] ∧ TextOk s ∧ H t = some (.tup (ps.map V.str)) ∧ ps.length ≤ 2 + 7 * n ∧ ∀ p ∈ ps, TextOk p)
def TyH (n : Nat) (c : Sorts) (H : Hp) : Prop := ∀ a, c a ≠ 0 → c a ≤ 3 ∧ ∃ o, H a = some o ∧ Sorted n c H (c a) o
def setC (c : Sorts) (a : Addr) (k : Nat) : Sorts := fun b => if b = a then k else c b
theorem setC_same {c : Sorts} {a : Addr} {k : Nat} : setC c a k a = k := if_pos rfl
theorem setC_ne {c : Sorts} {a b : Addr} {k : Nat} (h : b ≠ a) : setC c a k b = c b := if_neg h
theorem Sorted.lst {n : Nat} {c : Sorts} {H : Hp} {k : Nat} {o : HO} (h : Sorted n c H k o) (h0 : k ≠ 0) (h3 : k ≤ 3) : ∃ xs, o = .lst xs := by
  have : k = 1 ∨ k = 2 ∨ k = 3 := by omega
  rcases this with rfl | rfl | rfl
  · obtain ⟨_, _, e, _⟩ := h.1 rfl
    exact ⟨_, e⟩
  · obtain ⟨_, e, _⟩ := h.2.1 rfl
    exact ⟨_, e⟩
  · obtain ⟨_, _, _, e, _⟩ := h.2.2 rfl
    exact ⟨_, e⟩
theorem TyH.lst {n : Nat} {c : Sorts} {H : Hp} (h : TyH n c H) {a : Addr} (ha : c a ≠ 0) : ∃ xs, H a = some (.lst xs) := by
  obtain ⟨l, o, e, s⟩ := h a ha
  obtain ⟨xs, rfl⟩ := s.lst ha l
  exact ⟨xs, e⟩
theorem TyH.c0 {n : Nat} {c : Sorts} {H : Hp} (h : TyH n c H) {a : Addr} (ha : H a = none) : c a = 0 := by
  refine Classical.byContradiction fun z => ?_
  obtain ⟨xs, e⟩ := h.lst z
  rw [ha] at e
  cases e
theorem Sorted.mono {n n' : Nat} {c c' : Sorts} {H H' : Hp} {k : Nat} {o : HO} (hn : n ≤ n') (hc : ∀ b, c b ≠ 0 → c' b = c b) (ht : Tk H H') (h : Sorted n c H k o) : Sorted n' c' H' k o := by
  refine ⟨fun e => ?_, fun e => ?_, fun e => ?_⟩
  · obtain ⟨s, b, e1, e2, e3⟩ := h.1 e
    exact ⟨s, b, e1, e2, by rw [hc b (by omega)]; exact e3⟩
  · obtain ⟨xs, e1, e2, e3⟩ := h.2.1 e
    refine ⟨xs, e1, by omega, fun x hx => ?_⟩
    obtain ⟨b, e4, e5⟩ := e3 x hx
    exact ⟨b, e4, by rw [hc b (by omega)]; exact e5⟩
  · obtain ⟨s, t, ps, e1, e2, e3, e4, e5⟩ := h.2.2 e
    exact ⟨s, t, ps, e1, e2, ht _ _ e3, by omega, e5⟩
/-- what keeps the sorted objects and all tuples -/
theorem TyH.keep {n : Nat} {c : Sorts} {H H' : Hp} (h : TyH n c H) (ht : Tk H H') (hk : ∀ a, c a ≠ 0 → H' a = H a) : TyH n c H' := fun a ha => by
  obtain ⟨l, o, e, s⟩ := h a ha
  exact ⟨l, o, (hk a ha).trans e, s.mono (Nat.le_refl _) (fun _ _ => rfl) ht⟩
theorem TyH.ex {n : Nat} {c : Sorts} {H H' : Hp} (h : TyH n c H) (e : Ex H H') : TyH n c H' := h.keep e.tk fun a ha => by
  obtain ⟨xs, q⟩ := h.lst ha
  rw [q, e _ _ q]
theorem TyH.le {n m : Nat} {c : Sorts} {H : Hp} (h : TyH n c H) (hn : n ≤ m) : TyH m c H := fun a ha => by
  obtain ⟨l, o, e, s⟩ := h a ha
  exact ⟨l, o, e, s.mono hn (fun _ _ => rfl) (Tk.refl _)⟩
/-- a sorted object changed -/
theorem TyH.set {n : Nat} {c : Sorts} {H : Hp} {a : Addr} {o : HO} (h : TyH n c H) (ha : c a ≠ 0) (ho : Sorted n c H (c a) o) : TyH n c (upd H a o) := by
  obtain ⟨xs, q⟩ := h.lst ha
  have t : Tk H (upd H a o) := ((But.refl a H).upd).tkl q
  intro b hb
  by_cases e : b = a
  · subst e
    exact ⟨(h b hb).1, o, upd_same, ho.mono (Nat.le_refl _) (fun _ _ => rfl) t⟩
  · obtain ⟨l, o', e1, s⟩ := h b hb
    exact ⟨l, o', by rw [upd_ne e]; exact e1, s.mono (Nat.le_refl _) (fun _ _ => rfl) t⟩
/-- an object that had no sort gets one -/
theorem TyH.cls {n : Nat} {c : Sorts} {H : Hp} {a : Addr} {k : Nat} {o : HO} (h : TyH n c H) (ha : c a = 0) (hk : k ≤ 3) (q : H a = some o) (ho : Sorted n c H k o) : TyH n (setC c a k) H ∧ ∀ b, c b ≠ 0 → setC c a k b = c b := by
  have hc : ∀ b, c b ≠ 0 → setC c a k b = c b := fun b hb => setC_ne fun e => hb (e ▸ ha)
  refine ⟨fun b hb => ?_, hc⟩
  by_cases e : b = a
  · subst e
    rw [setC_same]
    exact ⟨hk, o, q, ho.mono (Nat.le_refl _) hc (Tk.refl _)⟩
  · rw [setC_ne e] at hb ⊢
    obtain ⟨l, o', e1, s⟩ := h b hb
    exact ⟨l, o', e1, s.mono (Nat.le_refl _) hc (Tk.refl _)⟩
theorem TyH.but {n : Nat} {c : Sorts} {H H' : Hp} {p : Addr} (h : TyH n c H) (b : But p H H') (hp : Box H p) (c0 : c p = 0) : TyH n c H' := h.keep (hp.tk b) fun a ha => by
  obtain ⟨xs, q⟩ := h.lst ha
  have ne : a ≠ p := fun e => ha (by rw [e]; exact c0)
  rw [q, b _ _ ne q]
/-- fresh: what is sorted is new to H0 -/
def FreshC (c : Sorts) (H0 : Hp) : Prop := ∀ a, c a ≠ 0 → H0 a = none
theorem FreshC.set {c : Sorts} {H0 : Hp} {a : Addr} {k : Nat} (h : FreshC c H0) (ha : H0 a = none) : FreshC (setC c a k) H0 := fun b hb => by
  by_cases e : b = a
  · rw [e]; exact ha
  · rw [setC_ne e] at hb
    exact h b hb
/-- the rows: a list of such -/
def RowsAt (m : Nat) (c : Sorts) (xs : List V) : Prop := xs.length ≤ m ∧ ∀ x ∈ xs, ∃ b, x = .ref b ∧ c b = 1
theorem RowsAt.mono {m : Nat} {c c' : Sorts} {xs : List V} (h : RowsAt m c xs) (hc : ∀ b, c b ≠ 0 → c' b = c b) : RowsAt m c' xs := ⟨h.1, fun x hx => by
  obtain ⟨b, e, q⟩ := h.2 x hx
  exact ⟨b, e, by rw [hc b (by omega)]; exact q⟩⟩
/-! ### a list compared with the empty one -/
def DpOk (K : PySem.W.Frag) (H : Hp) (v : V) (k : Nat) : Prop := ∃ d, Dp K H v d ∧ d.canLay0 = true ∧ d.depth ≤ k
theorem dpok_all {K : PySem.W.Frag} {H : Hp} {k : Nat} : ∀ {xs : List V}, (∀ x ∈ xs, DpOk K H x k) → ∃ ds, DpAll K H xs ds ∧ PyData.canLayAll0 ds = true ∧ PyData.depthAll ds ≤ k ∧ ds.length = xs.length
  | [], _ => ⟨[], .nil, rfl, Nat.zero_le _, rfl⟩
  | x :: xs, h => by
    obtain ⟨d, h1, h2, h3⟩ := h x List.mem_cons_self
    obtain ⟨ds, k1, k2, k3, k4⟩ := dpok_all (xs := xs) fun y hy => h y (List.mem_cons_of_mem _ hy)
    refine ⟨d :: ds, .cons h1 k1, ?_, ?_, by simp [k4]⟩
    · show (d.canLay0 && PyData.canLayAll0 ds) = true
      rw [h2, k2]
      rfl
    · show max d.depth (PyData.depthAll ds) ≤ k
      omega
theorem g_neNil {K : PySem.W.Frag} {H : Hp} {Q : VK} {a b : Addr} {xs : List V} (ha : H a = some (.lst xs)) (hb : H b = some (.lst [])) (h : ∀ x ∈ xs, DpOk K H x 60) (q : Q (.bl (!xs.isEmpty)) H) : rNeD K (.ref a) (.ref b) H Q := by
  obtain ⟨ds, h1, h2, h3, h4⟩ := dpok_all h
  refine ⟨.list ds, .list [], .lst (sqL ha) h1, .lst (sqL hb) .nil, ?_, rfl, ?_⟩
  · show (PyData.canLayAll0 ds && decide (PyData.depthAll ds + 1 ≤ 64)) = true
    rw [h2, decide_eq_true (by omega)]
    rfl
  · have e : PyData.eqv (.list ds) (.list []) = xs.isEmpty := by
      show PyData.eqvAll ds [] = xs.isEmpty
      cases ds with
      | nil =>
        have : xs = [] := List.eq_nil_of_length_eq_zero h4.symm
        subst this
        rfl
      | cons d ds =>
        cases xs with
        | nil => cases h4
        | cons x xs => rfl
    rw [e]
    exact q
/-! ### the state while a wood is spoilt -/
structure SpSt (p R : Addr) (n m : Nat) (c : Sorts) (H H1 : Hp) (rows : List V) : Prop where
  bx0 : Box H p
  bt : But p H H1
  bx : Box H1 p
  at_ : H1 R = some (.lst rows)
  ty : TyH n c H1
  fr : FreshC c H
  cR : c R = 0
  hR : H R = none
  rw : RowsAt m c rows
section
variable {p R : Addr} {n m : Nat} {c : Sorts} {H H1 H2 : Hp} {rows : List V}
theorem SpSt.np (s : SpSt p R n m c H H1 rows) {a : Addr} (ha : H a = none) : a ≠ p := fun e => by
  obtain ⟨_, _, _, q⟩ := s.bx0
  rw [← e, ha] at q
  cases q
theorem SpSt.cp (s : SpSt p R n m c H H1 rows) : c p = 0 := Classical.byContradiction fun z => s.np (s.fr p z) rfl
theorem SpSt.free (s : SpSt p R n m c H H1 rows) {a : Addr} (ha : H1 a = none) : H a = none := by
  cases e : H a with
  | none => rfl
  | some o =>
    by_cases z : a = p
    · subst z
      obtain ⟨_, _, _, q⟩ := s.bx
      rw [ha] at q
      cases q
    · rw [s.bt _ _ z e] at ha
      cases ha
theorem SpSt.but (s : SpSt p R n m c H H1 rows) (b : But p H1 H2) (hb : Box H2 p) : SpSt p R n m c H H2 rows :=
  ⟨s.bx0, s.bt.trans b, hb, b _ _ (s.np s.hR) s.at_, s.ty.but b s.bx s.cp, s.fr, s.cR, s.hR, s.rw⟩
theorem SpSt.ex (s : SpSt p R n m c H H1 rows) (e : Ex H1 H2) : SpSt p R n m c H H2 rows := s.but (e.but p) (s.bx.ex e)
/-- a sorted object changed -/
theorem SpSt.set (s : SpSt p R n m c H H1 rows) {a : Addr} {o : HO} (ha : c a ≠ 0) (ho : Sorted n c H1 (c a) o) : SpSt p R n m c H (upd H1 a o) rows :=
  ⟨s.bx0, s.bt.at_new (s.fr a ha), s.bx.at_upd (s.np (s.fr a ha)), by rw [upd_ne (fun e => ha (by rw [← e]; exact s.cR))]; exact s.at_, s.ty.set ha ho, s.fr, s.cR, s.hR, s.rw⟩
/-- a new sorted object -/
theorem SpSt.cls (s : SpSt p R n m c H H1 rows) {a : Addr} {k : Nat} {o : HO} (ha : c a = 0) (hN : H a = none) (ne : R ≠ a) (hk : k ≤ 3) (q : H1 a = some o) (ho : Sorted n c H1 k o) : SpSt p R n m (setC c a k) H H1 rows ∧ ∀ b, c b ≠ 0 → setC c a k b = c b := by
  obtain ⟨h1, h2⟩ := s.ty.cls ha hk q ho
  exact ⟨⟨s.bx0, s.bt, s.bx, s.at_, h1, s.fr.set hN, by rw [setC_ne ne]; exact s.cR, s.hR, s.rw.mono h2⟩, h2⟩
theorem SpSt.add (s : SpSt p R n m c H H1 rows) {a : Addr} {k : Nat} {o : HO} (ha : H1 a = none) (hk : k ≤ 3) (ho : Sorted n c H1 k o) : SpSt p R n m (setC c a k) H (upd H1 a o) rows ∧ ∀ b, c b ≠ 0 → setC c a k b = c b :=
  (s.ex (Ex.new ha)).cls (s.ty.c0 ha) (s.free ha) (ne_of_none s.at_ ha) hk upd_same (ho.mono (Nat.le_refl _) (fun _ _ => rfl) (Ex.new ha).tk)
theorem SpSt.le (s : SpSt p R n m c H H1 rows) {n' m' : Nat} (h1 : n ≤ n') (h2 : m ≤ m') : SpSt p R n' m' c H H1 rows :=
  ⟨s.bx0, s.bt, s.bx, s.at_, s.ty.le h1, s.fr, s.cR, s.hR, Nat.le_trans s.rw.1 h2, s.rw.2⟩
end
end Bk
set_option Elab.async false
set_option linter.all false
set_option maxRecDepth 100000
set_option maxHeartbeats 4000000
/-! Bk20: zip(a, b, strict=True), a and b lists or tuples of one length. -/
namespace Bk
open PySem PySem.Spec PyProof.Rows L2
abbrev IsZipS (h : Heap) (z TI TO : Addr) (f0 : Value) : Prop := h.get? z = some { cls := .type "zip", dict := none, data := .fields #[f0, .bool false, .bool true, .ref TI, .ref TO], slots := #[] }
section
variable {prog : Program} {w : World} {A : Around} {E : Value → Shared → Prop} {s : Shared}
theorem oe_item {k : Bool} {it l : Addr} {i : Nat} {xs : Array Value} {x : Value} {Q : Option Value → Shared → Prop} (hit : SIt s.heap k it l i xs) (hn : l ≠ it) (hx : xs[i]? = some x)
    (hQ : ∀ h', SIt h' k it l (i + 1) xs → Heap.SameBut it s.heap h' → Q (some x) { s with heap := h' }) : wpAny (model prog w) A (Builtin.SmallTypes.nextOrEnd (.ref it)) Q E s := by
  unfold Builtin.SmallTypes.nextOrEnd
  exact wpAny_bind (wpAny_attempt (sit_item hit hn hx fun h' a b => wpAny_pure (hQ h' a b)))
theorem oe_end {k : Bool} {it l : Addr} {i : Nat} {xs : Array Value} {Q : Option Value → Shared → Prop} (hh : A.handled = none) (hit : SIt s.heap k it l i xs) (hx : xs[i]? = none)
    (hQ : ∀ h', Heap.ExtBut it s.heap h' → Q none { s with heap := h' }) : wpAny (model prog w) A (Builtin.SmallTypes.nextOrEnd (.ref it)) Q E s := by
  unfold Builtin.SmallTypes.nextOrEnd
  refine wpAny_bind (wpAny_attempt (sit_end hh hit hx fun h' e hs he => ?_))
  obtain ⟨o, ho, hc⟩ := he
  refine wpAny_bind (wpAny_isInstance (T := "StopIteration") (b := true) ⟨o, ho, hc⟩ isSubtype_stop ?_)
  exact wpAny_pure (hQ _ hs)
theorem sz_item {k1 k2 : Bool} {z TI TO i1 i2 l1 l2 : Addr} {i : Nat} {xs ys : Array Value} {x y a b : Value} {Q : Value → Shared → Prop} (D : ZipApart z TI TO i1 i2 l1 l2)
    (hz : IsZipS s.heap z TI TO .none) (hTI : IsPair s.heap TI (.ref i1) (.ref i2)) (hTO : IsPair s.heap TO a b) (h1 : SIt s.heap k1 i1 l1 i xs) (h2 : SIt s.heap k2 i2 l2 i ys) (hx : xs[i]? = some x) (hy : ys[i]? = some y)
    (hQ : ∀ h', IsZipS h' z TI TO (rawInt s.heap.objs.size) → IsPair h' TO x y → SIt h' k1 i1 l1 (i + 1) xs → SIt h' k2 i2 l2 (i + 1) ys → IsPair h' s.heap.objs.size x y → h'.objs.size = s.heap.objs.size + 1 →
      (∀ c o, c ≠ z → c ≠ TO → c ≠ i1 → c ≠ i2 → s.heap.get? c = some o → h'.get? c = some o) → Q (.ref s.heap.objs.size) { s with heap := h' }) :
    wpAny (model prog w) A (Builtin.«zip.__next__» ⟨[.ref z], []⟩) (fun fin s' => ∃ v, fin = .done (.ret v) ∧ Q v s') E s := by
  show wpAny _ _ (field (.ref z) 2 >>= _) _ _ _
  refine wpAny_bind (wpAny_field hz rfl (x := .bool true) rfl ?_)
  show wpAny _ _ (field (.ref z) 3 >>= _) _ _ _
  refine wpAny_bind (wpAny_field hz rfl (x := .ref TI) rfl ?_)
  refine wpAny_bind (wpAny_seqItems hTI rfl ?_)
  show wpAny _ _ (Builtin.SmallTypes.ownedTupleIsFree (.ref z) >>= _) _ _ _
  refine wpAny_bind ?_
  unfold Builtin.SmallTypes.ownedTupleIsFree
  refine wpAny_bind (wpAny_field hz rfl (x := .none) rfl (wpAny_pure ?_))
  simp only [if_true]
  refine wpAny_bind (wpAny_rule ?_)
  refine wpAny_bind (wpAny_field hz rfl (x := .ref TO) rfl ?_)
  refine wpAny_bind (wpAny_setField_rec hz (by simp) fun g1 hz1 hs1 => ?_)
  replace hz1 : IsZipS g1 z TI TO .ellipsis := hz1
  refine wpAny_bind ?_
  simp only [List.zipIdx_cons, List.zipIdx_nil, List.forIn_cons, List.forIn_nil]
  refine wpAny_bind (wpAny_bind (wpAny_onRaise ?_))
  show wpAny _ _ (Builtin.SmallTypes.nextOrEnd (.ref i1)) _ _ _
  refine oe_item (h1.keep (fun o e => hs1.extBut _ _ D.i1z e) (fun o e => hs1.extBut _ _ D.l1z e)) D.l1i1 hx fun g2 h12 hs2 => ?_
  have hTO2 : IsPair g2 TO a b := hs2.extBut _ _ D.TOi1 (hs1.extBut _ _ D.TOz hTO)
  refine wpAny_bind (wpAny_seqItems hTO2 rfl ?_)
  refine wpAny_bind (wpAny_updateSeq_pair hTO2 fun g3 hTO3 hs3 => ?_)
  replace hTO3 : IsPair g3 TO x b := hTO3
  refine wpAny_bind (wpAny_letGo (wpAny_pure ?_))
  refine wpAny_bind (wpAny_bind (wpAny_onRaise ?_))
  show wpAny _ _ (Builtin.SmallTypes.nextOrEnd (.ref i2)) _ _ _
  refine oe_item (h2.keep (fun o e => hs3.extBut _ _ D.TOi2.symm (hs2.extBut _ _ D.i12.symm (hs1.extBut _ _ D.i2z e))) (fun o e => hs3.extBut _ _ D.l2TO (hs2.extBut _ _ D.l2i1 (hs1.extBut _ _ D.l2z e)))) D.l2i2 hy fun g4 h24 hs4 => ?_
  have hTO4 : IsPair g4 TO x b := hs4.extBut _ _ D.TOi2 hTO3
  refine wpAny_bind (wpAny_seqItems hTO4 rfl ?_)
  refine wpAny_bind (wpAny_updateSeq_pair hTO4 fun g5 hTO5 hs5 => ?_)
  replace hTO5 : IsPair g5 TO x y := hTO5
  refine wpAny_bind (wpAny_letGo (wpAny_pure (wpAny_pure ?_)))
  refine wpAny_bind (wpAny_seqItems hTO5 rfl ?_)
  refine wpAny_bind (wpAny_newTuple ?_)
  have hsz : g5.objs.size = s.heap.objs.size := by rw [hs5.1, hs4.1, hs3.1, hs2.1, hs1.1]
  have kp : ∀ c o, c ≠ z → c ≠ TO → c ≠ i1 → c ≠ i2 → s.heap.get? c = some o → g5.get? c = some o := fun c o c1 c2 c3 c4 e =>
    hs5.extBut _ _ c2 (hs4.extBut _ _ c4 (hs3.extBut _ _ c2 (hs2.extBut _ _ c3 (hs1.extBut _ _ c1 e))))
  have hz5 : IsZipS g5 z TI TO .ellipsis := hs5.extBut _ _ D.TOz.symm (hs4.extBut _ _ D.i2z.symm (hs3.extBut _ _ D.TOz.symm (hs2.extBut _ _ D.i1z.symm hz1)))
  have h15 : SIt g5 k1 i1 l1 (i + 1) xs := h12.keep (fun o e => hs5.extBut _ _ D.TOi1.symm (hs4.extBut _ _ D.i12 (hs3.extBut _ _ D.TOi1.symm e))) (fun o e => hs5.extBut _ _ D.l1TO (hs4.extBut _ _ D.l1i2 (hs3.extBut _ _ D.l1TO e)))
  have h25 : SIt g5 k2 i2 l2 (i + 1) ys := h24.keep (fun o e => hs5.extBut _ _ D.TOi2.symm e) (fun o e => hs5.extBut _ _ D.l2TO e)
  have hzlt : z < g5.objs.size := Heap.lt_size hz5
  show wpAny _ _ (Builtin.SmallTypes.ownedTupleHandOut (.ref z) (.ref g5.objs.size) >>= _) _ _ _
  refine wpAny_bind ?_
  unfold Builtin.SmallTypes.ownedTupleHandOut
  have hz6 : IsZipS (g5.push { cls := .type "tuple", data := .seq #[x, y] }) z TI TO .ellipsis := Heap.get?_push_of_some _ hz5
  refine wpAny_bind (wpAny_setField_rec hz6 (by simp) fun g7 hz7 hs7 => ?_)
  replace hz7 : IsZipS g7 z TI TO (rawInt g5.objs.size) := hz7
  refine wpAny_setField_rec hz7 (by simp) fun g8 hz8 hs8 => ?_
  replace hz8 : IsZipS g8 z TI TO (rawInt g5.objs.size) := hz8
  have up : ∀ c o, c ≠ z → g5.get? c = some o → g8.get? c = some o := fun c o c1 e => hs8.extBut _ _ c1 (hs7.extBut _ _ c1 (Heap.get?_push_of_some _ e))
  have hT8 : IsPair g8 g5.objs.size x y := hs8.extBut _ _ (Nat.ne_of_gt hzlt) (hs7.extBut _ _ (Nat.ne_of_gt hzlt) (Heap.get?_push_size _ rfl))
  have z8 : g8.objs.size = g5.objs.size + 1 := by rw [hs8.1, hs7.1, Heap.size_push]
  rw [hsz] at hz8 hT8 z8
  refine wpAny_pure ⟨_, rfl, ?_⟩
  show Q (.ref g5.objs.size) _
  rw [hsz]
  exact hQ g8 hz8 (up _ _ D.TOz hTO5) (h15.keep (fun o e => up _ o D.i1z e) (fun o e => up _ o D.l1z e)) (h25.keep (fun o e => up _ o D.i2z e) (fun o e => up _ o D.l2z e)) hT8 z8 fun c o c1 c2 c3 c4 e => up c o c1 (kp c o c1 c2 c3 c4 e)
theorem sz_end {k1 k2 : Bool} {z TI TO i1 i2 l1 l2 : Addr} {i : Nat} {xs ys : Array Value} {a b : Value} {Q : Fin → Shared → Prop} (hh : A.handled = none) (D : ZipApart z TI TO i1 i2 l1 l2)
    (hz : IsZipS s.heap z TI TO .none) (hTI : IsPair s.heap TI (.ref i1) (.ref i2)) (hTO : IsPair s.heap TO a b) (h1 : SIt s.heap k1 i1 l1 i xs) (h2 : SIt s.heap k2 i2 l2 i ys) (hx : xs[i]? = none) (hy : ys[i]? = none)
    (hE : ∀ h' e, (∀ c o, c ≠ z → c ≠ TO → c ≠ i1 → c ≠ i2 → s.heap.get? c = some o → h'.get? c = some o) → (∃ o, h'.get? e = some o ∧ o.cls = .type "StopIteration") → E (.ref e) { s with heap := h' }) :
    wpAny (model prog w) A (Builtin.«zip.__next__» ⟨[.ref z], []⟩) Q E s := by
  show wpAny _ _ (field (.ref z) 2 >>= _) _ _ _
  refine wpAny_bind (wpAny_field hz rfl (x := .bool true) rfl ?_)
  show wpAny _ _ (field (.ref z) 3 >>= _) _ _ _
  refine wpAny_bind (wpAny_field hz rfl (x := .ref TI) rfl ?_)
  refine wpAny_bind (wpAny_seqItems hTI rfl ?_)
  show wpAny _ _ (Builtin.SmallTypes.ownedTupleIsFree (.ref z) >>= _) _ _ _
  refine wpAny_bind ?_
  unfold Builtin.SmallTypes.ownedTupleIsFree
  refine wpAny_bind (wpAny_field hz rfl (x := .none) rfl (wpAny_pure ?_))
  simp only [if_true]
  refine wpAny_bind (wpAny_rule ?_)
  refine wpAny_bind (wpAny_field hz rfl (x := .ref TO) rfl ?_)
  refine wpAny_bind (wpAny_setField_rec hz (by simp) fun g1 hz1 hs1 => ?_)
  replace hz1 : IsZipS g1 z TI TO .ellipsis := hz1
  refine wpAny_bind ?_
  simp only [List.zipIdx_cons, List.zipIdx_nil, List.forIn_cons, List.forIn_nil]
  refine wpAny_bind (wpAny_bind (wpAny_onRaise ?_))
  show wpAny _ _ (Builtin.SmallTypes.nextOrEnd (.ref i1)) _ _ _
  refine oe_end hh (h1.keep (fun o e => hs1.extBut _ _ D.i1z e) (fun o e => hs1.extBut _ _ D.l1z e)) hx fun g2 hs2 => ?_
  have hz2 : IsZipS g2 z TI TO .ellipsis := hs2 _ _ D.i1z.symm hz1
  refine wpAny_bind (wpAny_setField_rec hz2 (by simp) fun g3 hz3 hs3 => ?_)
  refine wpAny_bind ?_
  show wpAny _ _ (forIn (([Value.ref i1, Value.ref i2].drop 1).zipIdx 1) _ _ >>= _) _ _ _
  refine wpAny_bind ?_
  simp only [List.drop_succ_cons, List.drop_zero, List.zipIdx_cons, List.zipIdx_nil, List.forIn_cons, List.forIn_nil]
  refine wpAny_bind (wpAny_bind (oe_end hh (h2.keep (fun o e => hs3.extBut _ _ D.i2z (hs2 _ _ D.i12.symm (hs1.extBut _ _ D.i2z e))) (fun o e => hs3.extBut _ _ D.l2z (hs2 _ _ D.l2i1 (hs1.extBut _ _ D.l2z e)))) hy fun g4 hs4 => ?_))
  simp only [Option.isSome_none, Bool.false_eq_true, if_false]
  refine wpAny_pure (wpAny_pure (wpAny_bind (wpAny_rule ?_)))
  show wpAny _ _ (newExc (.type "StopIteration") [] >>= _) _ _ _
  refine wpAny_bind ?_
  simp only [newExc, newTuple]
  refine wpAny_bind (wpAny_newObj_type ?_ (by size_fits))
  refine wpAny_bind (m := firstArgMember _ _) (wpAny_of_eq (a := Value.none) (by first | rfl | (simp only [firstArgMember]; rfl)) ?_)
  refine wpAny_newObj_type ?_ (by size_fits)
  simp only [raiseNew]
  refine wpAny_bind (wpAny_handled ?_)
  first | rw [show A.in1.handled = none from hh] | rw [hh]
  refine wpAny_bind (wpAny_pure (wpAny_throw ?_))
  refine hE _ _ (fun c o c1 c2 c3 c4 e => Heap.get?_push_of_some _ (Heap.get?_push_of_some _ (hs4 _ _ c4 (hs3.extBut _ _ c1 (hs2 _ _ c3 (hs1.extBut _ _ c1 e)))))) ⟨_, Heap.get?_push_size _ rfl, rfl⟩
theorem sz_nextItem {k1 k2 : Bool} {z TI TO i1 i2 l1 l2 : Addr} {i : Nat} {xs ys : Array Value} {x y a b : Value} {Q : Option Value → Shared → Prop} (D : ZipApart z TI TO i1 i2 l1 l2)
    (hz : IsZipS s.heap z TI TO .none) (hTI : IsPair s.heap TI (.ref i1) (.ref i2)) (hTO : IsPair s.heap TO a b) (h1 : SIt s.heap k1 i1 l1 i xs) (h2 : SIt s.heap k2 i2 l2 i ys) (hx : xs[i]? = some x) (hy : ys[i]? = some y)
    (hQ : ∀ h', IsZipS h' z TI TO (rawInt s.heap.objs.size) → IsPair h' TO x y → SIt h' k1 i1 l1 (i + 1) xs → SIt h' k2 i2 l2 (i + 1) ys → IsPair h' s.heap.objs.size x y → h'.objs.size = s.heap.objs.size + 1 →
      (∀ c o, c ≠ z → c ≠ TO → c ≠ i1 → c ≠ i2 → s.heap.get? c = some o → h'.get? c = some o) → Q (some (.ref s.heap.objs.size)) { s with heap := h' }) : wpAny (model prog w) A (pyNext (.ref z)) Q E s := by
  have hT : s.TypeIs (.ref z) "zip" := ⟨_, hz, rfl⟩
  unfold pyNext
  exact wpAny_bind (wpAny_attempt (wpAny_callSpecial?_slot (name := Str.ofString "__next__") hT F.slot_zip_next
    (wpAny_call_entry F.slot_zip_next hT F.entry_zip_next (sz_item D hz hTI hTO h1 h2 hx hy fun h' a1 a2 a3 a4 a5 a6 a7 => wpAny_pure (hQ h' a1 a2 a3 a4 a5 a6 a7)) (F.args_zip_next_1 _))))
theorem sz_nextEnd {k1 k2 : Bool} {z TI TO i1 i2 l1 l2 : Addr} {i : Nat} {xs ys : Array Value} {a b : Value} {Q : Option Value → Shared → Prop} (hh : A.handled = none) (D : ZipApart z TI TO i1 i2 l1 l2)
    (hz : IsZipS s.heap z TI TO .none) (hTI : IsPair s.heap TI (.ref i1) (.ref i2)) (hTO : IsPair s.heap TO a b) (h1 : SIt s.heap k1 i1 l1 i xs) (h2 : SIt s.heap k2 i2 l2 i ys) (hx : xs[i]? = none) (hy : ys[i]? = none)
    (hQ : ∀ h', (∀ c o, c ≠ z → c ≠ TO → c ≠ i1 → c ≠ i2 → s.heap.get? c = some o → h'.get? c = some o) → Q none { s with heap := h' }) : wpAny (model prog w) A (pyNext (.ref z)) Q E s := by
  have hT : s.TypeIs (.ref z) "zip" := ⟨_, hz, rfl⟩
  unfold pyNext
  refine wpAny_bind (wpAny_attempt (wpAny_callSpecial?_slot (name := Str.ofString "__next__") hT F.slot_zip_next
    (wpAny_call_entry F.slot_zip_next hT F.entry_zip_next (sz_end hh D hz hTI hTO h1 h2 hx hy fun h' e hk he => ?_) (F.args_zip_next_1 _))))
  obtain ⟨o, ho, hc⟩ := he
  refine wpAny_bind (wpAny_isInstance (T := "StopIteration") (b := true) ⟨o, ho, hc⟩ isSubtype_stop ?_)
  exact wpAny_pure (hQ _ hk)
theorem sz_go {elts : List Expr} {x1} {pos : Pos} {z TI TO T : Addr} {Q : Unit → Shared → Prop} (hz : IsZipS s.heap z TI TO (rawInt T)) (hQ : ∀ h', IsZipS h' z TI TO .none → Heap.SameBut z s.heap h' → Q () { s with heap := h' }) :
    wpAny (model prog w) A (letOwnedTupleGo (.Tuple elts x1 pos) (.ref z) (.ref T)) Q E s := by
  unfold letOwnedTupleGo
  refine wpAny_bind (wpAny_load hz ?_)
  show wpAny _ _ (if (["enumerate", "zip", "dict_itemiterator", "dict_reverseitemiterator", "odict_iterator", "itertools.zip_longest", "itertools.pairwise"].contains "zip" && (#[rawInt T, .bool false, .bool true, .ref TI, .ref TO] : Array Value)[0]? == some (rawInt T)) = true then _ else _) Q E s
  rw [if_pos (by simp)]
  refine wpAny_bind (wpAny_rule ?_)
  show wpAny _ _ (setField (.ref z) 0 .none) Q E s
  exact wpAny_setField_rec hz (by simp) fun h' hz' hs' => hQ h' hz' hs'
theorem sz_iter {z TI TO : Addr} {f0 : Value} {Q : Value → Shared → Prop} (hz : IsZipS s.heap z TI TO f0) (h : Q (.ref z) s) : wpAny (model prog w) A (pyIter (.ref z)) Q E s := by
  have hT : s.TypeIs (.ref z) "zip" := ⟨_, hz, rfl⟩
  refine wpAny_pyIter_slot hT F.slot_zip_iter (wpAny_call_entry F.slot_zip_iter hT F.entry_zip_iter ?_ (F.args_zip_iter_1 _))
  show wpAny _ _ (ret (.ref z)) _ _ s
  exact wpAny_pure ⟨_, rfl, "zip", _, hT, F.slot_zip_next.lookup, h⟩
end
theorem typeCall_zipS (a b v : Value) : checkTypeCall "zip" ⟨[a, b], [(Str.ofString "strict", v)]⟩ = pure () := by kernel_rfl
theorem newCall_zipS (a b v : Value) : checkBuiltinCall "zip.__new__" ⟨[.type "zip", a, b], [(Str.ofString "strict", v)]⟩ = pure () := by kernel_rfl
theorem args_zipS (obj a b v : Value) : argsOk "object.__init__" ⟨[obj, a, b], [(Str.ofString "strict", v)]⟩ := by unfold argsOk; kernel_rfl
abbrev szZ (h : Heap) (o1 o2 : Obj) : Heap := (gzO2 h o1 o2).push { cls := .type "zip", data := .fields #[.none, .bool false, .bool true, .ref ((h.push o1).push o2).objs.size, .ref (gzT2 h o1 o2).objs.size] }
theorem meets_zipS {v1 v2 : Value} {o1 o2 : Obj} {H1 H2 : Heap → Prop} (B1 : Begins v1 o1 H1) (B2 : Begins v2 o2 H2) :
    Meets (Builtin.«zip.__new__» ⟨[.type "zip", v1, v2], [(Str.ofString "strict", .bool true)]⟩) (fun _ R s => (H1 s.heap ∧ H2 s.heap) ∧ R (.ok (.ret (.ref (gzO2 s.heap o1 o2).objs.size))) { s with heap := szZ s.heap o1 o2 }) :=
  .of_wp fun prog w A R s h => by
    obtain ⟨hp, g, d, tk, os⟩ := s
    obtain ⟨⟨h1, h2⟩, h⟩ := h
    have hsub := sub_zip
    have e2 : (Str.ofString "strict" != ("strict" : Str)) = false := by decide +kernel
    have q1 : ∀ {A' : Around} {E : Value → Shared → Prop} {Q : Value → Shared → Prop}, Q (.ref hp.objs.size) ⟨(hp.push o1), g, d, tk, os⟩ → wpAny (model prog w) A' (pyIter v1) Q E ⟨hp, g, d, tk, os⟩ :=
      fun q => B1.iter prog w _ _ ⟨hp, g, d, tk, os⟩ _ h1 q
    have q2 : ∀ {A' : Around} {E : Value → Shared → Prop} {Q : Value → Shared → Prop}, Q (.ref (hp.push o1).objs.size) ⟨((hp.push o1).push o2), g, d, tk, os⟩ → wpAny (model prog w) A' (pyIter v2) Q E ⟨(hp.push o1), g, d, tk, os⟩ :=
      fun q => B2.iter prog w _ _ ⟨(hp.push o1), g, d, tk, os⟩ _ (B2.keeps _ _ h2 fun b o' e => Heap.get?_push_of_some _ e) q
    wp_walk using q1, q2
    exact ⟨_, rfl, h⟩
section
variable {prog : Program} {w : World} {A : Around} {E : Value → Shared → Prop} {s : Shared}
theorem zipS_begins {v1 v2 : Value} {o1 o2 : Obj} {H1 H2 : Heap → Prop} {Q : Value → Shared → Prop} (B1 : Begins v1 o1 H1) (B2 : Begins v2 o2 H2) (h1 : H1 s.heap) (h2 : H2 s.heap)
    (h : ∀ h', IsZipS h' (s.heap.objs.size + 4) (s.heap.objs.size + 2) (s.heap.objs.size + 3) .none → IsPair h' (s.heap.objs.size + 2) (.ref s.heap.objs.size) (.ref (s.heap.objs.size + 1)) →
      IsPair h' (s.heap.objs.size + 3) .none .none → h'.get? s.heap.objs.size = some o1 → h'.get? (s.heap.objs.size + 1) = some o2 → h'.objs.size = s.heap.objs.size + 5 →
      (∀ c o, s.heap.get? c = some o → h'.get? c = some o) → Q (.ref (s.heap.objs.size + 4)) { s with heap := h' }) :
    wpAny (model prog w) A (call (.type "zip") [v1, v2] [(Str.ofString "strict", .bool true)]) Q E s := by
  refine callType_newKw F.called_zip (by decide) (typeCall_zipS _ _ _) (newCall_zipS _ _ _) (fun obj => args_zipS obj _ _ _) F.entry_zip_new (meets_zipS B1 B2) ⟨⟨h1, h2⟩, ?_⟩
  have z1 : (s.heap.push o1).objs.size = s.heap.objs.size + 1 := by rw [Heap.size_push]
  have z2 : ((s.heap.push o1).push o2).objs.size = s.heap.objs.size + 2 := by rw [Heap.size_push, z1]
  have zT : (gzT2 s.heap o1 o2).objs.size = s.heap.objs.size + 3 := by rw [Heap.size_push, z2]
  have zO : (gzO2 s.heap o1 o2).objs.size = s.heap.objs.size + 4 := by rw [Heap.size_push, zT]
  have zZ : (szZ s.heap o1 o2).objs.size = s.heap.objs.size + 5 := by rw [Heap.size_push, zO]
  have gZ : (szZ s.heap o1 o2).get? (gzO2 s.heap o1 o2).objs.size = some { cls := .type "zip", data := .fields #[.none, .bool false, .bool true, .ref ((s.heap.push o1).push o2).objs.size, .ref (gzT2 s.heap o1 o2).objs.size] } := Heap.get?_push_size _ rfl
  have gO : (szZ s.heap o1 o2).get? (gzT2 s.heap o1 o2).objs.size = some { cls := .type "tuple", data := .seq #[.none, .none] } := Heap.get?_push_of_some _ (Heap.get?_push_size _ rfl)
  have gT : (szZ s.heap o1 o2).get? ((s.heap.push o1).push o2).objs.size = some { cls := .type "tuple", data := .seq #[.ref s.heap.objs.size, .ref (s.heap.push o1).objs.size] } := Heap.get?_push_of_some _ (Heap.get?_push_of_some _ (Heap.get?_push_size _ rfl))
  have g1 : (szZ s.heap o1 o2).get? s.heap.objs.size = some o1 := Heap.get?_push_of_some _ (Heap.get?_push_of_some _ (Heap.get?_push_of_some _ (Heap.get?_push_of_some _ (Heap.get?_push_size _ B1.free))))
  have g2 : (szZ s.heap o1 o2).get? (s.heap.push o1).objs.size = some o2 := Heap.get?_push_of_some _ (Heap.get?_push_of_some _ (Heap.get?_push_of_some _ (Heap.get?_push_size _ B2.free)))
  rw [zO, zT, z2] at gZ
  rw [zT] at gO
  rw [z2, z1] at gT
  rw [z1] at g2
  show _ ∧ _
  rw [zO]
  exact ⟨⟨_, gZ, rfl⟩, h _ gZ gT gO g1 g2 zZ fun c o e => Heap.get?_push_of_some _ (Heap.get?_push_of_some _ (Heap.get?_push_of_some _ (Heap.get?_push_of_some _ (Heap.get?_push_of_some _ e))))⟩
end
/-! ### the turns -/
def SqK (K : PySem.W.Frag) (H : Hp) (k : Bool) (a : Addr) (xs : List V) : Prop := match k with
  | true => SqT K H a xs
  | false => SqL K H a xs
def KI (h : Heap) (k : Bool) (it l : Addr) (i : Nat) : Prop := match k with
  | true => h.IsTupleIter it l i
  | false => h.IsListIter it l i
def ItS (K : PySem.W.Frag) (k1 k2 : Bool) (a b : Addr) : It :=
  ⟨fun i H => ∃ (xs ys : List V) (x y : V), SqK K H k1 a xs ∧ SqK K H k2 b ys ∧ xs[i]? = some x ∧ ys[i]? = some y,
    fun i H v H' => ∃ T x y, v = .ref T ∧ H T = none ∧ H' = upd H T (.tup [x, y]) ∧ (∀ xs, SqK K H k1 a xs → xs[i]? = some x) ∧ ∀ ys, SqK K H k2 b ys → ys[i]? = some y,
    fun i H => ∃ xs ys : List V, SqK K H k1 a xs ∧ SqK K H k2 b ys ∧ xs.length ≤ i ∧ ys.length ≤ i⟩
theorem KI.get {h : Heap} {k : Bool} {it l : Addr} {i : Nat} (x : KI h k it l i) : ∃ o, h.get? it = some o ∧ ∀ v, o.data ≠ .cell v := by
  cases k with
  | true =>
    obtain ⟨o, e1, _, d1⟩ := x
    exact ⟨o, e1, fun v q => by rw [d1] at q; cases q⟩
  | false =>
    obtain ⟨o, e1, _, d1⟩ := x
    exact ⟨o, e1, fun v q => by rw [d1] at q; cases q⟩
theorem KI.at {h h' : Heap} {k : Bool} {it l : Addr} {i : Nat} (x : KI h k it l i) (f : ∀ o, h.get? it = some o → h'.get? it = some o) : KI h' k it l i := by
  cases k with
  | true => obtain ⟨o, e1, e2⟩ := x; exact ⟨o, f o e1, e2⟩
  | false => obtain ⟨o, e1, e2⟩ := x; exact ⟨o, f o e1, e2⟩
theorem SIt.ki {h : Heap} {k : Bool} {it l : Addr} {i : Nat} {xs : Array Value} (x : SIt h k it l i xs) : KI h k it l i := by
  cases k with
  | true => exact x.1
  | false => exact x.1
section
variable {X : Cx} {pins : List (Addr × Obj)} {σ : L2.St} {H : Hp} {s : Shared}
theorem sqk_its {k : Bool} {a : Addr} {xs : List V} (I : Inv X pins σ H s) (h : SqK X.K H k a xs) : ∃ its, Vals xs its ∧ ∀ {it : Addr} {i : Nat}, KI s.heap k it a i → SIt s.heap k it a i its.toArray := by
  cases k with
  | true =>
    obtain ⟨its, rv, p, _⟩ := I.tuple h
    exact ⟨its, rv, fun x => ⟨x, p⟩⟩
  | false =>
    obtain ⟨its, rv, p, _⟩ := I.list h
    exact ⟨its, rv, fun x => ⟨x, p.isList⟩⟩
theorem sqk_inj {k : Bool} {a : Addr} {xs ys : List V} (I : Inv X pins σ H s) (h : SqK X.K H k a xs) (h' : SqK X.K H k a ys) : xs = ys := by
  cases k with
  | true => exact I.tuple_inj h h'
  | false => exact I.list_inj h h'
end
theorem turn_zipS {P : Program} {w : World} {K : PySem.W.Frag} {elts : List Expr} {kk : Nat} {tpos : Pos} {k1 k2 : Bool} {a b z TI TO i1 i2 : Addr} (D : ZipApart z TI TO i1 i2 a b) :
    Turn P w K (.Tuple elts kk tpos) (ItS K k1 k2 a b) [z, TI, TO, i1, i2] z (fun i h => IsZipS h z TI TO .none ∧ IsPair h TI (.ref i1) (.ref i2) ∧ (∃ x y, IsPair h TO x y) ∧ KI h k1 i1 a i ∧ KI h k2 i2 b i) where
  mem := by simp
  obj := fun i h st c hc => by
    obtain ⟨hz, hTI, ⟨x, y, hTO⟩, h1, h2⟩ := st
    obtain ⟨o1, e1, d1⟩ := h1.get
    obtain ⟨o2, e2, d2⟩ := h2.get
    have e' : c = z ∨ c = TI ∨ c = TO ∨ c = i1 ∨ c = i2 := by simpa using hc
    rcases e' with q | q | q | q | q
    · rw [q]; exact ⟨_, hz, fun v q => nomatch q⟩
    · rw [q]; exact ⟨_, hTI, fun v q => nomatch q⟩
    · rw [q]; exact ⟨_, hTO, fun v q => nomatch q⟩
    · rw [q]; exact ⟨o1, e1, d1⟩
    · rw [q]; exact ⟨o2, e2, d2⟩
  keep := fun i h h' st k => by
    obtain ⟨hz, hTI, ⟨x, y, hTO⟩, h1, h2⟩ := st
    exact ⟨k z (by simp) _ hz, k TI (by simp) _ hTI, ⟨x, y, k TO (by simp) _ hTO⟩, h1.at fun o q => k i1 (by simp) o q, h2.at fun o q => k i2 (by simp) o q⟩
  item := by
    intro X hP hw hK hc i pins s σ H E I hf st hg
    subst hP hw hK
    obtain ⟨hz, hTI, ⟨x0, y0, hTO⟩, h1, h2⟩ := st
    obtain ⟨xs, ys, x, y, hqx, hqy, hx, hy⟩ := hg
    obtain ⟨its, rv, p⟩ := sqk_its I hqx
    obtain ⟨its2, rv2, p2⟩ := sqk_its I hqy
    obtain ⟨u, hu, ru⟩ := rv.get hx
    obtain ⟨u2, hu2, ru2⟩ := rv2.get hy
    have hzl : z < s.heap.objs.size := Heap.lt_size hz
    refine sz_nextItem D hz hTI hTO (p h1) (p2 h2) (x := u) (y := u2) (by simpa using hu) (by simpa using hu2) fun h' z' TO' h1' h2' hT hsz hk => ?_
    refine ⟨_, rfl, sz_go (s := { s with heap := h' }) z' fun h'' z'' sb => ?_⟩
    have hT2 : h''.get? s.heap.objs.size = some { cls := .type "tuple", data := .seq #[u, u2] } := (sb.2 _ (Nat.ne_of_gt hzl)).trans hT
    have new : ObjOk X.prog X.w (upd H s.heap.objs.size (.tup [x, y])) h'' s.heap.objs.size (.tup [x, y]) :=
      ⟨by show 2 ≤ sizeLine; decide, [u, u2], .cons ru (.cons ru2 .nil), ⟨_, hT2, rfl, _, rfl⟩⟩
    have I1 : Inv X pins σ (upd H s.heap.objs.size (.tup [x, y])) { s with heap := h'' } :=
      I.turnedNew (t' := s.toks) (ch := [z, TI, TO, i1, i2]) (fun c o hb q => (sb.2 c (fun q' => hb (by simp [q']))).trans (hk c o (fun q' => hb (by simp [q'])) (fun q' => hb (by simp [q'])) (fun q' => hb (by simp [q'])) (fun q' => hb (by simp [q'])) q)) hf (Nat.le_refl _) new
    refine ⟨.ref s.heap.objs.size, _, I1, rfl, ⟨_, x, y, rfl, I.hok.fresh (Nat.le_refl _), rfl, fun l hl => by rw [sqk_inj I hl hqx]; exact hx, fun l hl => by rw [sqk_inj I hl hqy]; exact hy⟩, ⟨z'', ?_, ⟨u, u2, ?_⟩, ?_, ?_⟩, fun c hcm => ?_⟩
    · exact (sb.2 _ D.TIz).trans (hk _ _ D.TIz D.TITO D.TIi1 D.TIi2 hTI)
    · exact (sb.2 _ D.TOz).trans TO'
    · exact h1'.ki.at fun o q => (sb.2 _ D.i1z).trans q
    · exact h2'.ki.at fun o q => (sb.2 _ D.i2z).trans q
    · have hlt : c < s.heap.objs.size := by
        have e' : c = z ∨ c = TI ∨ c = TO ∨ c = i1 ∨ c = i2 := by simpa using hcm
        rcases e' with q | q | q | q | q
        · rw [q]; exact hzl
        · rw [q]; exact Heap.lt_size hTI
        · rw [q]; exact Heap.lt_size hTO
        · rw [q]; obtain ⟨_, e1, _⟩ := h1.get; exact Heap.lt_size e1
        · rw [q]; obtain ⟨_, e2, _⟩ := h2.get; exact Heap.lt_size e2
      rw [upd_ne (Nat.ne_of_lt hlt)]
      exact (hf c hcm).1
  done := by
    intro X hP hw hK hc i pins s σ H E I hf st hg
    subst hP hw hK
    obtain ⟨hz, hTI, ⟨x0, y0, hTO⟩, h1, h2⟩ := st
    obtain ⟨xs, ys, hqx, hqy, he1, he2⟩ := hg
    obtain ⟨its, rv, p⟩ := sqk_its I hqx
    obtain ⟨its2, rv2, p2⟩ := sqk_its I hqy
    have l1 := rv.length
    have l2 := rv2.length
    exact sz_nextEnd (I.ok.hd hc) D hz hTI hTO (p h1) (p2 h2) (by simp; omega) (by simp; omega) fun h' hk => ⟨rfl, I.turnedL (t' := s.toks) (ch := [z, TI, TO, i1, i2]) (fun c o hb q => hk c o (fun q' => hb (by simp [q'])) (fun q' => hb (by simp [q'])) (fun q' => hb (by simp [q'])) (fun q' => hb (by simp [q'])) q) hf⟩
  self := fun A i s Q E st h => sz_iter st.1 h
theorem callWith_typeKw {M : Model} {A : Around} {E : Value → Shared → Prop} {s : Shared} {pos : Pos} {T : String} {args : List (Bool × Sem Value)} {keywords : List (Option Str × Sem Value)} {Q : Value → Shared → Prop}
    (hplain : args.any (·.1) = false) (hkw : keywords.any (·.1.isNone) = false)
    (h : wpAny M A (evalArgs (.type T) true args keywords) (fun a s₁ => wpAny M A (call (.type T) a.pos a.kw) Q E s₁) E s) : wpAny M A (callWith pos (.type T) [] args keywords) Q E s := by
  unfold callWith
  refine wpAny_bind (wpAny_holding (wpAny_mono h (fun a s₁ h₁ => wpAny_bind (wpAny_standAt ?_)) fun _ _ x => x))
  simp only [hplain, hkw, Bool.or_false]
  refine wpAny_bind (wpAny_pure ?_)
  exact wpAny_bind (wpAny_mono h₁ (fun r s₂ hr => wpAny_bind (wpAny_holding (wpAny_point (wpAny_pure hr)))) fun _ _ x => x)
def iZipS (K : PySem.W.Frag) (ta : TA) : TI := fun σ H R => ta σ H fun vs H1 => ∃ (k1 k2 : Bool) (a b : Addr) (xs ys : List V), vs = [.ref a, .ref b] ∧ SqK K H1 k1 a xs ∧ SqK K H1 k2 b ys ∧ R (ItS K k1 k2 a b) H1
theorem pi_zipS {X : Cx} {e e2 e3 : Expr} {ta : TA} {p pos tpos kp : Pos} {elts : List Expr} {kk : Nat} (hg : Gl X "zip") (hm : X.mg "zip" = none) (ha : PA X [e, e2] ta) (h3 : PE X e3 (tC (.bl true)))
    (hs : starEach [e, e2] X.env = (false, eval e X.env) :: starEach [e2] X.env := by rfl) (hpl : (backTo pos (starEach [e2] X.env)).any (·.1) = false := by rfl) :
    PI X (.Tuple elts kk tpos) (.Call (.Name "zip" p) [e, e2] [⟨some "strict", e3, kp⟩] pos) (iZipS X.K ta) := by
  refine ⟨fun pins s σ H R I h => ?_⟩
  refine wpAny_Call_Name_kw (ld_blt I hg hm PyProof.Rows.boot_zip ?_)
  have hpl2 : (backTo pos (starEach [e, e2] X.env)).any (·.1) = false := by
    rw [hs]
    show (false || (backTo pos (starEach [e2] X.env)).any (·.1)) = false
    rw [hpl]
    rfl
  refine callWith_typeKw hpl2 rfl ?_
  have hx := ha.run pos pins s σ H _ I h
  rw [hs] at hx ⊢
  refine evalArgs_kwB rfl (thn hx fun us s1 ⟨vs, H1, I1, r1, q1⟩ => ?_)
  refine kws_cons (thn (h3.run pins s1 σ H1 (fun v H2 => v = .bl true ∧ H2 = H1) I1 ⟨rfl, rfl⟩) fun u3 s2 q3 => kws_nil ?_)
  obtain ⟨v3, H2, I2, r3, ev, eh⟩ := q3
  subst ev
  subst eh
  cases (show u3 = Value.bool true from r3)
  obtain ⟨k1, k2, a, b, xs, ys, ex, hqx, hqy, q⟩ := q1
  subst ex
  cases r1 with
  | cons r rr =>
    cases rr with
    | cons r' rr =>
      cases rr
      cases r
      cases r'
      have fresh5 : ∀ c, c ∈ [s2.heap.objs.size + 4, s2.heap.objs.size + 2, s2.heap.objs.size + 3, s2.heap.objs.size, s2.heap.objs.size + 1] → FpOk X pins H2 c := fun c hcm => by
        have e' : c = s2.heap.objs.size + 4 ∨ c = s2.heap.objs.size + 2 ∨ c = s2.heap.objs.size + 3 ∨ c = s2.heap.objs.size ∨ c = s2.heap.objs.size + 1 := by simpa using hcm
        have hle : s2.heap.objs.size ≤ c := by omega
        exact I2.fpOk hle (I2.hok.fresh hle)
      cases k1 with
      | true =>
        cases k2 with
        | true =>
          obtain ⟨i1, v1, p1, _⟩ := I2.tuple hqx
          obtain ⟨o1, ho1, _⟩ := id p1
          have l1 := Heap.lt_size ho1
          have B1 := begins_tuple a i1.toArray
          have w1 : s2.heap.IsTuple a i1.toArray := p1
          obtain ⟨i2, v2, p2, _⟩ := I2.tuple hqy
          obtain ⟨o2, ho2, _⟩ := id p2
          have l2 := Heap.lt_size ho2
          have B2 := begins_tuple b i2.toArray
          have w2 : s2.heap.IsTuple b i2.toArray := p2
          refine zipS_begins B1 B2 w1 w2 fun h' hz hTI hTO g1 g2 hsz hk => sz_iter hz ?_
          exact ⟨s2.heap.objs.size + 4, [s2.heap.objs.size + 4, s2.heap.objs.size + 2, s2.heap.objs.size + 3, s2.heap.objs.size, s2.heap.objs.size + 1], _, _, H2, rfl, I2.kept (t' := s2.toks) hk, turn_zipS (k1 := true) (k2 := true) (PySem.W.ktu_apart s2.heap.objs.size a b l1 l2), ⟨hz, hTI, ⟨_, _, hTO⟩, (show h'.IsTupleIter s2.heap.objs.size a 0 from ⟨_, g1, rfl, rfl⟩), (show h'.IsTupleIter (s2.heap.objs.size + 1) b 0 from ⟨_, g2, rfl, rfl⟩)⟩, fresh5, q⟩
        | false =>
          obtain ⟨i1, v1, p1, _⟩ := I2.tuple hqx
          obtain ⟨o1, ho1, _⟩ := id p1
          have l1 := Heap.lt_size ho1
          have B1 := begins_tuple a i1.toArray
          have w1 : s2.heap.IsTuple a i1.toArray := p1
          obtain ⟨i2, v2, p2, _⟩ := I2.list hqy
          have l2 := p2.lt
          have B2 := begins_list b i2.toArray
          have w2 := p2.isList
          refine zipS_begins B1 B2 w1 w2 fun h' hz hTI hTO g1 g2 hsz hk => sz_iter hz ?_
          exact ⟨s2.heap.objs.size + 4, [s2.heap.objs.size + 4, s2.heap.objs.size + 2, s2.heap.objs.size + 3, s2.heap.objs.size, s2.heap.objs.size + 1], _, _, H2, rfl, I2.kept (t' := s2.toks) hk, turn_zipS (k1 := true) (k2 := false) (PySem.W.ktu_apart s2.heap.objs.size a b l1 l2), ⟨hz, hTI, ⟨_, _, hTO⟩, (show h'.IsTupleIter s2.heap.objs.size a 0 from ⟨_, g1, rfl, rfl⟩), (show h'.IsListIter (s2.heap.objs.size + 1) b 0 from ⟨_, g2, rfl, rfl⟩)⟩, fresh5, q⟩
      | false =>
        cases k2 with
        | true =>
          obtain ⟨i1, v1, p1, _⟩ := I2.list hqx
          have l1 := p1.lt
          have B1 := begins_list a i1.toArray
          have w1 := p1.isList
          obtain ⟨i2, v2, p2, _⟩ := I2.tuple hqy
          obtain ⟨o2, ho2, _⟩ := id p2
          have l2 := Heap.lt_size ho2
          have B2 := begins_tuple b i2.toArray
          have w2 : s2.heap.IsTuple b i2.toArray := p2
          refine zipS_begins B1 B2 w1 w2 fun h' hz hTI hTO g1 g2 hsz hk => sz_iter hz ?_
          exact ⟨s2.heap.objs.size + 4, [s2.heap.objs.size + 4, s2.heap.objs.size + 2, s2.heap.objs.size + 3, s2.heap.objs.size, s2.heap.objs.size + 1], _, _, H2, rfl, I2.kept (t' := s2.toks) hk, turn_zipS (k1 := false) (k2 := true) (PySem.W.ktu_apart s2.heap.objs.size a b l1 l2), ⟨hz, hTI, ⟨_, _, hTO⟩, (show h'.IsListIter s2.heap.objs.size a 0 from ⟨_, g1, rfl, rfl⟩), (show h'.IsTupleIter (s2.heap.objs.size + 1) b 0 from ⟨_, g2, rfl, rfl⟩)⟩, fresh5, q⟩
        | false =>
          obtain ⟨i1, v1, p1, _⟩ := I2.list hqx
          have l1 := p1.lt
          have B1 := begins_list a i1.toArray
          have w1 := p1.isList
          obtain ⟨i2, v2, p2, _⟩ := I2.list hqy
          have l2 := p2.lt
          have B2 := begins_list b i2.toArray
          have w2 := p2.isList
          refine zipS_begins B1 B2 w1 w2 fun h' hz hTI hTO g1 g2 hsz hk => sz_iter hz ?_
          exact ⟨s2.heap.objs.size + 4, [s2.heap.objs.size + 4, s2.heap.objs.size + 2, s2.heap.objs.size + 3, s2.heap.objs.size, s2.heap.objs.size + 1], _, _, H2, rfl, I2.kept (t' := s2.toks) hk, turn_zipS (k1 := false) (k2 := false) (PySem.W.ktu_apart s2.heap.objs.size a b l1 l2), ⟨hz, hTI, ⟨_, _, hTO⟩, (show h'.IsListIter s2.heap.objs.size a 0 from ⟨_, g1, rfl, rfl⟩), (show h'.IsListIter (s2.heap.objs.size + 1) b 0 from ⟨_, g2, rfl, rfl⟩)⟩, fresh5, q⟩
/-- a walk over a strict zip -/
theorem walk_zipS {K : PySem.W.Frag} {k1 k2 : Bool} {a b : Addr} {xs ys : List V} (hl : xs.length = ys.length) : Walk (ItS K k1 k2 a b) xs.length (fun H => SqK K H k1 a xs ∧ SqK K H k2 b ys) (YPair (fun i => xs[i]?) (fun i => ys[i]?)) := by
  refine ⟨fun i _ hi q => ⟨xs, ys, xs[i], ys[i], q.1, q.2, by simp [hi], by simp [← hl, hi]⟩, fun _ q => ⟨xs, ys, q.1, q.2, Nat.le_refl _, by omega⟩, fun i H v H' _ q y => ?_⟩
  obtain ⟨T, x, y, h1, h2, h3, h4, h5⟩ := y
  exact ⟨T, x, y, h1, h2, h3, h4 xs q.1, h5 ys q.2⟩
end Bk
set_option Elab.async false
set_option linter.all false
set_option maxRecDepth 100000
set_option maxHeartbeats 4000000
/-! Bk21: trees by rows. -/
namespace Bk
open PySem PySem.Spec PyProof.Rows L2
abbrev Tr := List (Str × List Int)
def rowD (r : Str × List Int) : D := .tup [.str r.1, .tup (r.2.map D.int)]
def treeD (t : Tr) : D := .tup (t.map rowD)
def mkOf (w : Wd) (s : Str) : Option (Nat × Mk) := (tabFrom 0 w).find? fun e => decide (e.2.1 = s)
def dueOf (w : Wd) (e : Nat × Mk) : List Int := e.2.2.map fun s => kno w s
def standsAt (ks ns due : List Int) : Bool := decide (ns.length = due.length) && ((ns.all fun n => decide (0 ≤ n ∧ n < (ks.length : Nat))) && (ns.zip due).all fun p => decide (ks[p.1.toNat]? = some p.2))
def stands (w : Wd) (ks : List Int) (r : Str × List Int) : Bool := match mkOf w r.1 with
  | none => false
  | some e => standsAt ks r.2 (dueOf w e)
def kindAt (w : Wd) (s : Str) : Int := match mkOf w s with
  | none => 0
  | some e => (e.1 : Nat)
theorem nodup_sub2 {α : Type} [DecidableEq α] : ∀ (l m : List α), l.Nodup → (∀ x ∈ l, x ∈ m) → l.length ≤ m.length
  | [], _, _, _ => Nat.zero_le _
  | x :: l, m, h, hs => by
    have hn := List.nodup_cons.1 h
    have hx := hs x List.mem_cons_self
    have z := nodup_sub2 l (m.erase x) hn.2 fun y hy => (List.mem_erase_of_ne (fun e => hn.1 (by rw [← e]; exact hy))).2 (hs y (List.mem_cons_of_mem _ hy))
    rw [List.length_erase_of_mem hx] at z
    have : 0 < m.length := List.length_pos_of_mem hx
    rw [List.length_cons]
    omega
theorem TabOk.none {w : Wd} {H : Hp} {kvs : List (L2.Key × V)} {L : List (Nat × Mk)} {s : Str} (h : TabOk w H kvs L) (hn : (L.map fun e => e.2.1).Nodup) (hs : s ∉ L.map fun e => e.2.1) : valV kvs (.inr s) = none := by
  refine Classical.byContradiction fun z => ?_
  have key : ∀ t v, valV kvs (.inr t) = some v → (Sum.inr t : L2.Key) ∈ kvs.map Prod.fst := fun t v e => by
    unfold valV at e
    rw [Option.map_eq_some_iff] at e
    obtain ⟨kv, e1, _⟩ := e
    have e2 := List.find?_some e1
    have e3 := List.mem_of_find?_eq_some e1
    exact List.mem_map.2 ⟨kv, e3, of_decide_eq_true e2⟩
  have hz : ∃ v, valV kvs (.inr s) = some v := by
    cases e : valV kvs (.inr s) with
    | none => exact absurd e z
    | some v => exact ⟨v, rfl⟩
  obtain ⟨v, hv⟩ := hz
  have a := nodup_sub2 ((s :: L.map fun e => e.2.1).map Sum.inr) (kvs.map Prod.fst) (by
    have nd : (s :: L.map fun e => e.2.1).Nodup := List.nodup_cons.2 ⟨hs, hn⟩
    exact List.Pairwise.map (R := (· ≠ ·)) (S := (· ≠ ·)) Sum.inr (fun x y hxy e => hxy (Sum.inr.inj e)) nd) fun x hx => by
      obtain ⟨t, ht, rfl⟩ := List.mem_map.1 hx
      rcases List.mem_cons.1 ht with rfl | ht
      · exact key _ _ hv
      · obtain ⟨e, he, rfl⟩ := List.mem_map.1 ht
        obtain ⟨p, t, q, _⟩ := h.2 e he
        exact key _ _ q
  have b := h.1
  simp only [List.length_map, List.length_cons] at a
  omega
theorem mkOf_some {w : Wd} {s : Str} {e : Nat × Mk} (h : mkOf w s = some e) : e ∈ tabFrom 0 w ∧ e.2.1 = s := ⟨List.mem_of_find?_eq_some h, of_decide_eq_true (List.find?_some (p := fun e : Nat × Mk => decide (e.2.1 = s)) h)⟩
theorem mkOf_none {w : Wd} {s : Str} (h : mkOf w s = none) : s ∉ (tabFrom 0 w).map fun e => e.2.1 := fun z => by
  obtain ⟨e, he, rfl⟩ := List.mem_map.1 z
  exact List.find?_eq_none.1 h e he (decide_eq_true rfl)
/-! told and due -/
/-- what both tell: a tuple of a word, or of a word and a number -/
def ToldT (H : Hp) (o : Option Nat) (p : Addr) : Prop := match o with
  | none => H p = some (.tup [.str "let by"])
  | some n => H p = some (.tup [.str "refused", .int (n : Nat)])
theorem ToldT.ex {H H' : Hp} {o : Option Nat} {p : Addr} (e : Ex H H') (h : ToldT H o p) : ToldT H' o p := by
  cases o with
  | none => exact e _ _ h
  | some n => exact e _ _ h
end Bk
set_option Elab.async false
set_option linter.all false
set_option maxRecDepth 100000
set_option maxHeartbeats 4000000
/-! Bk22: trees drawn. -/
namespace Bk
open PySem PySem.Spec PyProof.Rows L2
def goTr (w : Wd) : List Int → Tr → Bool
  | _, [] => true
  | ks, r :: t => stands w ks r && goTr w (ks ++ [kindAt w r.1]) t
def kindsT (w : Wd) (t : Tr) : List Int := t.map fun r => kindAt w r.1
theorem mkOf_mem {w : Wd} {e : Nat × Mk} (hn : ((tabFrom 0 w).map fun e => e.2.1).Nodup) (he : e ∈ tabFrom 0 w) : mkOf w e.2.1 = some e := by
  cases c : mkOf w e.2.1 with
  | none => exact absurd (List.mem_map.2 ⟨e, he, rfl⟩) (mkOf_none c)
  | some f =>
    obtain ⟨h1, h2⟩ := mkOf_some c
    obtain ⟨i, hi⟩ := List.mem_iff_getElem?.1 he
    obtain ⟨j, hj⟩ := List.mem_iff_getElem?.1 h1
    obtain ⟨i1, i2⟩ := List.getElem?_eq_some_iff.1 hi
    obtain ⟨j1, j2⟩ := List.getElem?_eq_some_iff.1 hj
    have z := List.pairwise_iff_getElem.1 hn
    by_cases e1 : i = j
    · subst e1
      rw [hi] at hj
      cases hj
      rfl
    · exfalso
      rcases Nat.lt_or_gt_of_ne e1 with l | l
      · refine z i j (by rw [List.length_map]; exact i1) (by rw [List.length_map]; exact j1) l ?_
        rw [List.getElem_map, List.getElem_map, i2, j2, h2]
      · refine z j i (by rw [List.length_map]; exact j1) (by rw [List.length_map]; exact i1) l ?_
        rw [List.getElem_map, List.getElem_map, i2, j2, h2]
theorem row_hard (r : Str × List Int) : (rowD r).hard = true := by
  show D.hards [.str r.1, .tup (r.2.map D.int)] = true
  have := ints_hard r.2
  simp only [D.hards, D.hard, this, Bool.and_self]
theorem rows_hard : ∀ t : Tr, D.hards (t.map rowD) = true
  | [] => rfl
  | r :: t => by
    show (D.hard (rowD r) && D.hards (t.map rowD)) = true
    rw [row_hard, rows_hard t]
    rfl
theorem tree_hard (t : Tr) : (treeD t).hard = true := by
  show D.hards (t.map rowD) = true
  exact rows_hard t
structure TreeSt (p R Kd Sz : Addr) (w : Wd) (H H1 : Hp) (t : Tr) (rvs : List V) (szs : List Int) : Prop where
  bx0 : Box H p
  bt : But p H H1
  bx : Box H1 p
  hR : H R = none
  hK : H Kd = none
  hS : H Sz = none
  RK : R ≠ Kd
  RS : R ≠ Sz
  KS : Kd ≠ Sz
  atR : H1 R = some (.lst rvs)
  atK : H1 Kd = some (.lst ((kindsT w t).map V.int))
  atS : H1 Sz = some (.lst (szs.map V.int))
  reps : Reps H1 (t.map rowD) rvs
  len : szs.length = t.length
  go : goTr w [] t = true
  row : ∀ r ∈ t, TextOk r.1 ∧ r.2.length ≤ 2
section
variable {p R Kd Sz : Addr} {w : Wd} {H H1 H2 : Hp} {t : Tr} {rvs : List V} {szs : List Int}
theorem TreeSt.np (s : TreeSt p R Kd Sz w H H1 t rvs szs) {a : Addr} (ha : H a = none) : a ≠ p := fun e => by
  obtain ⟨_, _, _, q⟩ := s.bx0
  rw [← e, ha] at q
  cases q
theorem TreeSt.free (s : TreeSt p R Kd Sz w H H1 t rvs szs) {a : Addr} (ha : H1 a = none) : H a = none := by
  cases e : H a with
  | none => rfl
  | some o =>
    by_cases z : a = p
    · subst z
      obtain ⟨_, _, _, q⟩ := s.bx
      rw [ha] at q
      cases q
    · rw [s.bt _ _ z e] at ha
      cases ha
theorem TreeSt.but (s : TreeSt p R Kd Sz w H H1 t rvs szs) (b : But p H1 H2) (hb : Box H2 p) : TreeSt p R Kd Sz w H H2 t rvs szs :=
  { s with bt := s.bt.trans b, bx := hb, atR := b _ _ (s.np s.hR) s.atR, atK := b _ _ (s.np s.hK) s.atK, atS := b _ _ (s.np s.hS) s.atS, reps := s.reps.tk (s.bx.tk b) (rows_hard t) }
theorem TreeSt.ex (s : TreeSt p R Kd Sz w H H1 t rvs szs) (e : Ex H1 H2) : TreeSt p R Kd Sz w H H2 t rvs szs := s.but (e.but p) (s.bx.ex e)
end
/-- a maker whose parts' kinds are there -/
def FitAt (w : Wd) (H : Hp) (ks : List Int) (x : V) : Prop := ∃ e, e ∈ tabFrom 0 w ∧ DueAt w H e x ∧ ∀ d ∈ dueOf w e, d ∈ ks
theorem FitAt.tk {w : Wd} {H H' : Hp} {ks : List Int} {x : V} (t : Tk H H') (h : FitAt w H ks x) : FitAt w H' ks x := by
  obtain ⟨e, a, b, c⟩ := h
  exact ⟨e, a, b.tk t, c⟩
/-! ### a tree spoilt -/
structure RwSt (p R : Addr) (n m : Nat) (c : Addr → Prop) (H H1 : Hp) (rows : List V) : Prop where
  bx0 : Box H p
  bt : But p H H1
  bx : Box H1 p
  at_ : H1 R = some (.lst rows)
  hR : H R = none
  cR : ¬ c R
  fr : ∀ a, c a → H a = none
  ty : ∀ a, c a → ∃ (s : Str) (t : Addr) (ns : List Int), H1 a = some (.lst [.str s, .ref t]) ∧ TextOk s ∧ H1 t = some (.tup (ns.map V.int)) ∧ ns.length ≤ n
  rw : rows.length ≤ m ∧ ∀ x ∈ rows, ∃ b, x = .ref b ∧ c b
section
variable {p R : Addr} {n m : Nat} {c : Addr → Prop} {H H1 H2 : Hp} {rows : List V}
theorem RwSt.np (s : RwSt p R n m c H H1 rows) {a : Addr} (ha : H a = none) : a ≠ p := fun e => by
  obtain ⟨_, _, _, q⟩ := s.bx0
  rw [← e, ha] at q
  cases q
theorem RwSt.free (s : RwSt p R n m c H H1 rows) {a : Addr} (ha : H1 a = none) : H a = none := by
  cases e : H a with
  | none => rfl
  | some o =>
    by_cases z : a = p
    · subst z
      obtain ⟨_, _, _, q⟩ := s.bx
      rw [ha] at q
      cases q
    · rw [s.bt _ _ z e] at ha
      cases ha
theorem RwSt.but (s : RwSt p R n m c H H1 rows) (b : But p H1 H2) (hb : Box H2 p) : RwSt p R n m c H H2 rows :=
  ⟨s.bx0, s.bt.trans b, hb, b _ _ (s.np s.hR) s.at_, s.hR, s.cR, s.fr, fun a ha => by
    obtain ⟨x, t, ns, h1, h2, h3, h4⟩ := s.ty a ha
    exact ⟨x, t, ns, b _ _ (s.np (s.fr a ha)) h1, h2, s.bx.tk b _ _ h3, h4⟩, s.rw⟩
theorem RwSt.ex (s : RwSt p R n m c H H1 rows) (e : Ex H1 H2) : RwSt p R n m c H H2 rows := s.but (e.but p) (s.bx.ex e)
theorem RwSt.le (s : RwSt p R n m c H H1 rows) {n' m' : Nat} (h1 : n ≤ n') (h2 : m ≤ m') : RwSt p R n' m' c H H1 rows :=
  ⟨s.bx0, s.bt, s.bx, s.at_, s.hR, s.cR, s.fr, fun a ha => by
    obtain ⟨x, t, ns, h3, h4, h5, h6⟩ := s.ty a ha
    exact ⟨x, t, ns, h3, h4, h5, by omega⟩, Nat.le_trans s.rw.1 h2, s.rw.2⟩
theorem RwSt.set (s : RwSt p R n m c H H1 rows) {a t : Addr} {x : Str} {ns : List Int} (ha : c a) (hx : TextOk x) (ht : H1 t = some (.tup (ns.map V.int))) (hl : ns.length ≤ n) : RwSt p R n m c H (upd H1 a (.lst [.str x, .ref t])) rows := by
  obtain ⟨x0, t0, ns0, q, _⟩ := s.ty a ha
  have k : Tk H1 (upd H1 a (.lst [.str x, .ref t])) := ((But.refl a H1).upd).tkl q
  refine ⟨s.bx0, s.bt.at_new (s.fr a ha), s.bx.at_upd (s.np (s.fr a ha)), by rw [upd_ne (fun e => s.cR (by rw [e]; exact ha))]; exact s.at_, s.hR, s.cR, s.fr, fun b hb => ?_, s.rw⟩
  by_cases e : b = a
  · subst e
    exact ⟨x, t, ns, upd_same, hx, k _ _ ht, hl⟩
  · obtain ⟨y, u, ms, h1, h2, h3, h4⟩ := s.ty b hb
    exact ⟨y, u, ms, by rw [upd_ne e]; exact h1, h2, k _ _ h3, h4⟩
theorem RwSt.add (s : RwSt p R n m c H H1 rows) {a t : Addr} {x : Str} {ns : List Int} (ha : H1 a = none) (hx : TextOk x) (ht : H1 t = some (.tup (ns.map V.int))) (hl : ns.length ≤ n) : RwSt p R n m (fun b => c b ∨ b = a) H (upd H1 a (.lst [.str x, .ref t])) rows := by
  have e := Ex.new (o := .lst [.str x, .ref t]) ha
  have s2 := s.ex e
  refine ⟨s.bx0, s2.bt, s2.bx, s2.at_, s.hR, fun z => z.elim s.cR (ne_of_none s.at_ ha), fun b hb => hb.elim (s.fr b) (fun z => z ▸ s.free ha), fun b hb => ?_, s.rw.1, fun y hy => ?_⟩
  · rcases hb with hb | rfl
    · exact s2.ty b hb
    · exact ⟨x, t, ns, upd_same, hx, e _ _ ht, hl⟩
  · obtain ⟨b, h1, h2⟩ := s.rw.2 y hy
    exact ⟨b, h1, .inl h2⟩
end
end Bk
set_option Elab.async false
set_option linter.all false
set_option maxRecDepth 100000
set_option maxHeartbeats 4000000
/-! Bk23: woods as texts. -/
namespace Bk
open PySem PySem.Spec PyProof.Rows L2
/-! ### what a text's rows write -/
/-- the kinds as they are read: a list of tuples, a list of makers in each -/
structure KdAt (H : Hp) (Kl : Addr) (ras : List Addr) (acc : Wd) : Prop where
  kl : ∃ vs, H Kl = some (.lst vs) ∧ vs.length = acc.length ∧ ∀ (i : Nat) (k : Str × List Mk) (m : Addr), acc[i]? = some k → ras[i]? = some m → ∃ a, vs[i]? = some (.ref a) ∧ H a = some (.tup [.str k.1, .ref m])
  rows : Rows H ras (acc.map Prod.snd)
  ne : Kl ∉ ras
section
variable {H H' : Hp} {Kl : Addr} {ras : List Addr} {acc : Wd}
theorem KdAt.ex (h : KdAt H Kl ras acc) (e : Ex H H') : KdAt H' Kl ras acc := by
  obtain ⟨vs, a, b, c⟩ := h.kl
  refine ⟨⟨vs, e _ _ a, b, fun i k m hk hm => ?_⟩, h.rows.keep e.tk fun a _ us q => e _ _ q, h.ne⟩
  obtain ⟨x, d1, d2⟩ := c i k m hk hm
  exact ⟨x, d1, e _ _ d2⟩
theorem KdAt.len (h : KdAt H Kl ras acc) : ras.length = acc.length := by rw [h.rows.len, List.length_map]
theorem KdAt.kind (h : KdAt H Kl ras acc) {vs : List V} {s : Str} {M a : Addr} (hk : H Kl = some (.lst vs)) (hM : H M = some (.lst [])) (hMn : M ∉ ras) (hMK : M ≠ Kl) (ha : H a = some (.tup [.str s, .ref M])) : KdAt (upd H Kl (.lst (vs ++ [.ref a]))) Kl (ras ++ [M]) (acc ++ [(s, [])]) := by
  obtain ⟨vs', b1, b2, b3⟩ := h.kl
  rw [hk] at b1
  cases b1
  have tk : Tk H (upd H Kl (.lst (vs ++ [.ref a]))) := ((But.refl Kl H).upd).tkl hk
  have rl := h.len
  refine ⟨⟨_, upd_same, by rw [List.length_append, List.length_append, b2]; rfl, fun i k m hi hm => ?_⟩, ⟨by rw [List.length_append, List.map_append, List.length_append, List.length_map, rl]; rfl, ?_, fun q x r hx hr => ?_⟩, fun z => ?_⟩
  · by_cases c : i < acc.length
    · rw [List.getElem?_append_left c] at hi
      rw [List.getElem?_append_left (by omega)] at hm
      obtain ⟨x, d1, d2⟩ := b3 i k m hi hm
      exact ⟨x, by rw [List.getElem?_append_left (by omega)]; exact d1, tk _ _ d2⟩
    · rw [List.getElem?_append_right (by omega)] at hi
      rw [List.getElem?_append_right (by omega)] at hm
      have ei : i = acc.length := by
        have := (List.getElem?_eq_some_iff.1 hi).1
        simp at this
        omega
      subst ei
      rw [Nat.sub_self] at hi
      rw [rl, Nat.sub_self] at hm
      cases hi
      cases hm
      exact ⟨a, by rw [List.getElem?_append_right (by omega), b2, Nat.sub_self]; rfl, tk _ _ ha⟩
  · rw [List.nodup_append]
    exact ⟨h.rows.nd, by simp, fun x hx y hy => by rw [List.mem_singleton.1 hy]; exact fun e => hMn (by rw [← e]; exact hx)⟩
  · rw [List.map_append] at hr
    by_cases c : q < acc.length
    · rw [List.getElem?_append_left (by omega)] at hx
      rw [List.getElem?_append_left (by rw [List.length_map]; exact c)] at hr
      obtain ⟨us, d1, d2⟩ := h.rows.at_ q x r hx hr
      have nx : x ≠ Kl := fun e => h.ne (by rw [← e]; exact List.mem_of_getElem? hx)
      exact ⟨us, by rw [upd_ne nx]; exact d1, d2.tk tk (mks_hard r)⟩
    · rw [List.getElem?_append_right (by omega)] at hx
      rw [List.getElem?_append_right (by rw [List.length_map]; omega)] at hr
      have eq : q = acc.length := by
        have := (List.getElem?_eq_some_iff.1 hx).1
        simp at this
        omega
      subst eq
      rw [rl, Nat.sub_self] at hx
      rw [List.length_map, Nat.sub_self] at hr
      cases hx
      cases hr
      exact ⟨[], by rw [upd_ne hMK]; exact hM, by simp only [List.map, Reps]⟩
  · rcases List.mem_append.1 z with z | z
    · exact h.ne z
    · exact hMK (List.mem_singleton.1 z).symm
/-- the last kind, and its list -/
theorem KdAt.last {acc0 : Wd} {k : Str × List Mk} (h : KdAt H Kl ras (acc0 ++ [k])) : ∃ vs a M us, H Kl = some (.lst vs) ∧ vs.length = acc0.length + 1 ∧ vs[acc0.length]? = some (.ref a) ∧ H a = some (.tup [.str k.1, .ref M]) ∧ ras[acc0.length]? = some M ∧ H M = some (.lst us) ∧ Reps H (k.2.map mkD) us := by
  obtain ⟨vs, b1, b2, b3⟩ := h.kl
  have rl := h.len
  rw [List.length_append, List.length_singleton] at rl b2
  have hk : (acc0 ++ [k])[acc0.length]? = some k := by rw [List.getElem?_append_right (Nat.le_refl _), Nat.sub_self]; rfl
  have hm := List.getElem?_eq_getElem (l := ras) (i := acc0.length) (by omega)
  obtain ⟨a, c1, c2⟩ := b3 _ _ _ hk hm
  obtain ⟨us, d1, d2⟩ := h.rows.at_ acc0.length _ k.2 hm (by rw [List.getElem?_map, hk]; rfl)
  exact ⟨vs, a, _, us, b1, b2, c1, c2, hm, d1, d2⟩
end
/-- what is read, within bounds -/
structure RdB (i : Nat) (acc : Wd) : Prop where
  wide : acc.length ≤ i
  name : ∀ k ∈ acc, TextOk k.1
  row : ∀ k ∈ acc, k.2.length ≤ i
  mkr : ∀ k ∈ acc, ∀ m ∈ k.2, TextOk m.1 ∧ m.2.length ≤ 2 ∧ ∀ s ∈ m.2, TextOk s
theorem RdB.kind {i : Nat} {acc : Wd} {s : Str} (h : RdB i acc) (hs : isName s = true) : RdB (i + 1) (acc ++ [(s, [])]) := by
  refine ⟨by rw [List.length_append, List.length_singleton]; have := h.wide; omega, fun k hk => ?_, fun k hk => ?_, fun k hk m hm => ?_⟩
  · rcases List.mem_append.1 hk with hk | hk
    · exact h.name k hk
    · rw [List.mem_singleton.1 hk]; exact isName_text hs
  · rcases List.mem_append.1 hk with hk | hk
    · have := h.row k hk; omega
    · rw [List.mem_singleton.1 hk]; exact Nat.zero_le _
  · rcases List.mem_append.1 hk with hk | hk
    · exact h.mkr k hk m hm
    · rw [List.mem_singleton.1 hk] at hm; cases hm
theorem reps_at {α : Type} {H : Hp} {f : α → D} : ∀ {as : List α} {vs : List V}, vs.length = as.length → (∀ (j : Nat) (v : V), vs[j]? = some v → ∃ a, as[j]? = some a ∧ Rep H (f a) v) → Reps H (as.map f) vs
  | [], [], _, _ => by simp only [List.map, Reps]
  | [], _ :: _, h, _ => by cases h
  | _ :: _, [], h, _ => by cases h
  | a :: as, v :: vs, h, h2 => by
    obtain ⟨a', e1, r⟩ := h2 0 v rfl
    cases e1
    have z := reps_at (f := f) (H := H) (as := as) (vs := vs) (Nat.succ.inj h) fun j u hj => h2 (j + 1) u hj
    simp only [List.map, Reps]
    exact ⟨v, vs, rfl, r, z⟩
theorem joinL_len {S : List Nat} : ∀ (ps : List (List Nat)), (TL.joinL S ps).length ≤ (ps.map (·.length + S.length)).sum
  | [] => Nat.zero_le _
  | [p] => by
    show p.length ≤ _
    simp
  | p :: q :: ps => by
    have z := joinL_len (S := S) (q :: ps)
    show (p ++ (S ++ TL.joinL S (q :: ps))).length ≤ _
    rw [List.length_append, List.length_append, List.map_cons, List.sum_cons]
    omega
theorem join_chars {y : Str} {ps : List Str} : (Txt.join y ps).cps.toList = TL.joinL (TL.tl y) (ps.map TL.tl) := by
  have e1 : ∀ s : Str, SX.S (TL.tl s) = s := fun s => by
    apply TL.ext_tl
    show (SX.S (TL.tl s)).cps.toList = s.cps.toList
    unfold SX.S
    simp [TL.tl]
  have e2 : ps = (ps.map TL.tl).map SX.S := by
    rw [List.map_map]
    conv => lhs; rw [← List.map_id ps]
    exact List.map_congr_left fun s _ => (e1 s).symm
  have e3 := SX.join_S (TL.tl y) (ps.map TL.tl)
  rw [← e2, e1 y] at e3
  rw [e3]
theorem join_len {y : Str} {ps : List Str} {b : Nat} (h : ∀ s ∈ ps, s.length ≤ b) : (Txt.join y ps).length ≤ ps.length * (b + y.length) := by
  rw [str_len, join_chars]
  refine Nat.le_trans (joinL_len _) ?_
  rw [List.map_map]
  have e : ((ps.map ((fun p : List Nat => p.length + (TL.tl y).length) ∘ TL.tl)).sum) ≤ ps.length * (b + y.length) := by
    induction ps with
    | nil => exact Nat.zero_le _
    | cons p ps ih =>
      have a := h p List.mem_cons_self
      have z := ih fun s hs => h s (List.mem_cons_of_mem _ hs)
      rw [List.map_cons, List.sum_cons, List.length_cons, Nat.succ_mul]
      have e1 : ((fun p : List Nat => p.length + (TL.tl y).length) ∘ TL.tl) p = p.length + y.length := by
        show p.cps.toList.length + y.cps.toList.length = _
        rw [← str_len, ← str_len]
      rw [e1]
      omega
  exact e
/-- a row as it may be: no line feed, signs, so long -/
structure RowOk (b : Nat) (s : Str) : Prop where
  len : s.length ≤ b
  sign : ∀ c ∈ s.cps.toList, c < 0x110000
  line : 10 ∉ s.cps.toList
end Bk
set_option Elab.async false
set_option linter.all false
set_option maxRecDepth 100000
set_option maxHeartbeats 4000000
/-! Bk24: replace of written texts behind a token. -/
namespace Bk
open PySem PySem.Spec PyProof.Rows L2
theorem count_no {s : Str} (h : 10 ∉ s.cps.toList) : s.cps.toList.count 10 = 0 := List.count_eq_zero.2 h
/-- a word that may be put in -/
structure WordOk (b : Nat) (s : Str) : Prop where
  len : s.length ≤ b
  sign : ∀ c ∈ s.cps.toList, c < 0x110000
  few : s.cps.toList.count 10 ≤ 10
/-- a row that may stand among the others: long, some line feeds -/
structure NewRow (b : Nat) (s : Str) : Prop where
  len : s.length ≤ b
  sign : ∀ c ∈ s.cps.toList, c < 0x110000
  few : s.cps.toList.count 10 ≤ 20
theorem RowOk.new {b b' : Nat} {s : Str} (h : RowOk b s) (hb : b ≤ b') : NewRow b' s := ⟨Nat.le_trans h.len hb, h.sign, by rw [count_no h.line]; exact Nat.zero_le _⟩
theorem WordOk.new {L : Nat} {s : Str} (h : WordOk (L + 10) s) : NewRow (3 * L + 20) s := ⟨by have := h.len; omega, h.sign, by have := h.few; omega⟩
theorem app3 (a b : Str) : ((a ++ (" " : Str)) ++ b).cps.toList = a.cps.toList ++ [32] ++ b.cps.toList := by
  show ((a.cps ++ (" " : Str).cps) ++ b.cps).toList = _
  have e : (" " : Str).cps.toList = [32] := by decide +kernel
  rw [Array.toList_append, Array.toList_append, e]
theorem WordOk.two {L : Nat} {s : Str} (h : WordOk (L + 10) s) (hL : 1 ≤ L) : NewRow (3 * L + 20) ((s ++ (" " : Str)) ++ s) := by
  have hl := h.len
  have hf := h.few
  refine ⟨?_, fun c hc => ?_, ?_⟩
  · rw [str_len, app3, List.length_append, List.length_append, List.length_singleton, ← str_len]
    omega
  · rw [app3] at hc
    rcases List.mem_append.1 hc with hc | hc
    · rcases List.mem_append.1 hc with hc | hc
      · exact h.sign c hc
      · rw [List.mem_singleton.1 hc]; decide
    · exact h.sign c hc
  · rw [app3, List.count_append, List.count_append]
    have : List.count 10 [32] = 0 := by decide
    omega
end Bk
set_option Elab.async false
set_option linter.all false
set_option maxRecDepth 100000
set_option maxHeartbeats 4000000
/-! Bk25: a wood that is looked at and let by; what a text of a wood comes to. -/
namespace Bk
open PySem PySem.Spec PyProof.Rows L2
theorem or_none {α : Type} {a b : Option α} (h : a.or b = none) : a = none ∧ b = none := by
  cases a with
  | none => exact ⟨rfl, h⟩
  | some x => cases h
end Bk
set_option Elab.async false
set_option linter.all false
set_option maxRecDepth 100000
set_option maxHeartbeats 4000000
/-! Bk26: zip(a, b) of lists and tuples of one length, of whichever sort each. -/
namespace Bk
open PySem PySem.Spec PyProof.Rows L2
section
variable {prog : Program} {w : World} {A : Around} {E : Value → Shared → Prop} {s : Shared}
theorem nz_item {k1 k2 : Bool} {z TI TO i1 i2 l1 l2 : Addr} {i : Nat} {xs ys : Array Value} {x y a b : Value} {Q : Value → Shared → Prop} (D : ZipApart z TI TO i1 i2 l1 l2)
    (hz : IsZip s.heap z TI TO .none) (hTI : IsPair s.heap TI (.ref i1) (.ref i2)) (hTO : IsPair s.heap TO a b) (h1 : SIt s.heap k1 i1 l1 i xs) (h2 : SIt s.heap k2 i2 l2 i ys) (hx : xs[i]? = some x) (hy : ys[i]? = some y)
    (hQ : ∀ h', IsZip h' z TI TO (rawInt s.heap.objs.size) → IsPair h' TO x y → SIt h' k1 i1 l1 (i + 1) xs → SIt h' k2 i2 l2 (i + 1) ys → IsPair h' s.heap.objs.size x y → h'.objs.size = s.heap.objs.size + 1 →
      (∀ c o, c ≠ z → c ≠ TO → c ≠ i1 → c ≠ i2 → s.heap.get? c = some o → h'.get? c = some o) → Q (.ref s.heap.objs.size) { s with heap := h' }) :
    wpAny (model prog w) A (Builtin.«zip.__next__» ⟨[.ref z], []⟩) (fun fin s' => ∃ v, fin = .done (.ret v) ∧ Q v s') E s := by
  show wpAny _ _ (field (.ref z) 2 >>= _) _ _ _
  refine wpAny_bind (wpAny_field hz rfl (x := .bool false) rfl ?_)
  show wpAny _ _ (field (.ref z) 3 >>= _) _ _ _
  refine wpAny_bind (wpAny_field hz rfl (x := .ref TI) rfl ?_)
  refine wpAny_bind (wpAny_seqItems hTI rfl ?_)
  show wpAny _ _ (Builtin.SmallTypes.ownedTupleIsFree (.ref z) >>= _) _ _ _
  refine wpAny_bind ?_
  unfold Builtin.SmallTypes.ownedTupleIsFree
  refine wpAny_bind (wpAny_field hz rfl (x := .none) rfl (wpAny_pure ?_))
  simp only [if_true]
  refine wpAny_bind (wpAny_rule ?_)
  refine wpAny_bind (wpAny_field hz rfl (x := .ref TO) rfl ?_)
  refine wpAny_bind (wpAny_setField_rec hz (by simp) fun g1 hz1 hs1 => ?_)
  replace hz1 : IsZip g1 z TI TO .ellipsis := hz1
  refine wpAny_bind ?_
  simp only [List.zipIdx_cons, List.zipIdx_nil, List.forIn_cons, List.forIn_nil]
  refine wpAny_bind (wpAny_bind (wpAny_onRaise ?_))
  show wpAny _ _ (Builtin.SmallTypes.nextOf (.ref i1) >>= _) _ _ _
  refine wpAny_bind (sit_item (h1.keep (fun o e => hs1.extBut _ _ D.i1z e) (fun o e => hs1.extBut _ _ D.l1z e)) D.l1i1 hx fun g2 h12 hs2 => wpAny_pure ?_)
  have hTO2 : IsPair g2 TO a b := hs2.extBut _ _ D.TOi1 (hs1.extBut _ _ D.TOz hTO)
  refine wpAny_bind (wpAny_seqItems hTO2 rfl ?_)
  refine wpAny_bind (wpAny_updateSeq_pair hTO2 fun g3 hTO3 hs3 => ?_)
  replace hTO3 : IsPair g3 TO x b := hTO3
  refine wpAny_bind (wpAny_letGo (wpAny_pure ?_))
  refine wpAny_bind (wpAny_bind (wpAny_onRaise ?_))
  show wpAny _ _ (Builtin.SmallTypes.nextOf (.ref i2) >>= _) _ _ _
  refine wpAny_bind (sit_item (h2.keep (fun o e => hs3.extBut _ _ D.TOi2.symm (hs2.extBut _ _ D.i12.symm (hs1.extBut _ _ D.i2z e))) (fun o e => hs3.extBut _ _ D.l2TO (hs2.extBut _ _ D.l2i1 (hs1.extBut _ _ D.l2z e)))) D.l2i2 hy fun g4 h24 hs4 => wpAny_pure ?_)
  have hTO4 : IsPair g4 TO x b := hs4.extBut _ _ D.TOi2 hTO3
  refine wpAny_bind (wpAny_seqItems hTO4 rfl ?_)
  refine wpAny_bind (wpAny_updateSeq_pair hTO4 fun g5 hTO5 hs5 => ?_)
  replace hTO5 : IsPair g5 TO x y := hTO5
  refine wpAny_bind (wpAny_letGo (wpAny_pure (wpAny_pure ?_)))
  refine wpAny_bind (wpAny_seqItems hTO5 rfl ?_)
  refine wpAny_bind (wpAny_newTuple ?_)
  have hsz : g5.objs.size = s.heap.objs.size := by rw [hs5.1, hs4.1, hs3.1, hs2.1, hs1.1]
  have kp : ∀ c o, c ≠ z → c ≠ TO → c ≠ i1 → c ≠ i2 → s.heap.get? c = some o → g5.get? c = some o := fun c o c1 c2 c3 c4 e =>
    hs5.extBut _ _ c2 (hs4.extBut _ _ c4 (hs3.extBut _ _ c2 (hs2.extBut _ _ c3 (hs1.extBut _ _ c1 e))))
  have hz5 : IsZip g5 z TI TO .ellipsis := hs5.extBut _ _ D.TOz.symm (hs4.extBut _ _ D.i2z.symm (hs3.extBut _ _ D.TOz.symm (hs2.extBut _ _ D.i1z.symm hz1)))
  have h15 : SIt g5 k1 i1 l1 (i + 1) xs := h12.keep (fun o e => hs5.extBut _ _ D.TOi1.symm (hs4.extBut _ _ D.i12 (hs3.extBut _ _ D.TOi1.symm e))) (fun o e => hs5.extBut _ _ D.l1TO (hs4.extBut _ _ D.l1i2 (hs3.extBut _ _ D.l1TO e)))
  have h25 : SIt g5 k2 i2 l2 (i + 1) ys := h24.keep (fun o e => hs5.extBut _ _ D.TOi2.symm e) (fun o e => hs5.extBut _ _ D.l2TO e)
  have hzlt : z < g5.objs.size := Heap.lt_size hz5
  show wpAny _ _ (Builtin.SmallTypes.ownedTupleHandOut (.ref z) (.ref g5.objs.size) >>= _) _ _ _
  refine wpAny_bind ?_
  unfold Builtin.SmallTypes.ownedTupleHandOut
  have hz6 : IsZip (g5.push { cls := .type "tuple", data := .seq #[x, y] }) z TI TO .ellipsis := Heap.get?_push_of_some _ hz5
  refine wpAny_bind (wpAny_setField_rec hz6 (by simp) fun g7 hz7 hs7 => ?_)
  replace hz7 : IsZip g7 z TI TO (rawInt g5.objs.size) := hz7
  refine wpAny_setField_rec hz7 (by simp) fun g8 hz8 hs8 => ?_
  replace hz8 : IsZip g8 z TI TO (rawInt g5.objs.size) := hz8
  have up : ∀ c o, c ≠ z → g5.get? c = some o → g8.get? c = some o := fun c o c1 e => hs8.extBut _ _ c1 (hs7.extBut _ _ c1 (Heap.get?_push_of_some _ e))
  have hT8 : IsPair g8 g5.objs.size x y := hs8.extBut _ _ (Nat.ne_of_gt hzlt) (hs7.extBut _ _ (Nat.ne_of_gt hzlt) (Heap.get?_push_size _ rfl))
  have z8 : g8.objs.size = g5.objs.size + 1 := by rw [hs8.1, hs7.1, Heap.size_push]
  rw [hsz] at hz8 hT8 z8
  refine wpAny_pure ⟨_, rfl, ?_⟩
  show Q (.ref g5.objs.size) _
  rw [hsz]
  exact hQ g8 hz8 (up _ _ D.TOz hTO5) (h15.keep (fun o e => up _ o D.i1z e) (fun o e => up _ o D.l1z e)) (h25.keep (fun o e => up _ o D.i2z e) (fun o e => up _ o D.l2z e)) hT8 z8 fun c o c1 c2 c3 c4 e => up c o c1 (kp c o c1 c2 c3 c4 e)
theorem nz_end {k1 k2 : Bool} {z TI TO i1 i2 l1 l2 : Addr} {i : Nat} {xs ys : Array Value} {a b : Value} {Q : Fin → Shared → Prop} (hh : A.handled = none) (D : ZipApart z TI TO i1 i2 l1 l2)
    (hz : IsZip s.heap z TI TO .none) (hTI : IsPair s.heap TI (.ref i1) (.ref i2)) (hTO : IsPair s.heap TO a b) (h1 : SIt s.heap k1 i1 l1 i xs) (h2 : SIt s.heap k2 i2 l2 i ys) (hx : xs[i]? = none) (hy : ys[i]? = none)
    (hE : ∀ h' e, (∀ c o, c ≠ z → c ≠ TO → c ≠ i1 → c ≠ i2 → s.heap.get? c = some o → h'.get? c = some o) → (∃ o, h'.get? e = some o ∧ o.cls = .type "StopIteration") → E (.ref e) { s with heap := h' }) :
    wpAny (model prog w) A (Builtin.«zip.__next__» ⟨[.ref z], []⟩) Q E s := by
  show wpAny _ _ (field (.ref z) 2 >>= _) _ _ _
  refine wpAny_bind (wpAny_field hz rfl (x := .bool false) rfl ?_)
  show wpAny _ _ (field (.ref z) 3 >>= _) _ _ _
  refine wpAny_bind (wpAny_field hz rfl (x := .ref TI) rfl ?_)
  refine wpAny_bind (wpAny_seqItems hTI rfl ?_)
  show wpAny _ _ (Builtin.SmallTypes.ownedTupleIsFree (.ref z) >>= _) _ _ _
  refine wpAny_bind ?_
  unfold Builtin.SmallTypes.ownedTupleIsFree
  refine wpAny_bind (wpAny_field hz rfl (x := .none) rfl (wpAny_pure ?_))
  simp only [if_true]
  refine wpAny_bind (wpAny_rule ?_)
  refine wpAny_bind (wpAny_field hz rfl (x := .ref TO) rfl ?_)
  refine wpAny_bind (wpAny_setField_rec hz (by simp) fun g1 hz1 hs1 => ?_)
  replace hz1 : IsZip g1 z TI TO .ellipsis := hz1
  refine wpAny_bind ?_
  simp only [List.zipIdx_cons, List.zipIdx_nil, List.forIn_cons, List.forIn_nil]
  refine wpAny_bind (wpAny_bind (wpAny_onRaise ?_))
  show wpAny _ _ (Builtin.SmallTypes.nextOf (.ref i1) >>= _) _ _ _
  refine wpAny_bind (sit_end hh (h1.keep (fun o e => hs1.extBut _ _ D.i1z e) (fun o e => hs1.extBut _ _ D.l1z e)) hx fun g2 e hs2 he => ?_)
  obtain ⟨oe, hoe, hce⟩ := he
  have hz2 : IsZip g2 z TI TO .ellipsis := hs2 _ _ D.i1z.symm hz1
  have hez : e ≠ z := fun x => by subst x; rw [hz2] at hoe; cases hoe; simp at hce
  exact wpAny_setField_rec hz2 (by simp) fun g3 _ hs3 => hE g3 e (fun c o c1 _ c3 _ x => hs3.extBut _ _ c1 (hs2 _ _ c3 (hs1.extBut _ _ c1 x))) ⟨oe, hs3.extBut _ _ hez hoe, hce⟩
theorem nz_nextItem {k1 k2 : Bool} {z TI TO i1 i2 l1 l2 : Addr} {i : Nat} {xs ys : Array Value} {x y a b : Value} {Q : Option Value → Shared → Prop} (D : ZipApart z TI TO i1 i2 l1 l2)
    (hz : IsZip s.heap z TI TO .none) (hTI : IsPair s.heap TI (.ref i1) (.ref i2)) (hTO : IsPair s.heap TO a b) (h1 : SIt s.heap k1 i1 l1 i xs) (h2 : SIt s.heap k2 i2 l2 i ys) (hx : xs[i]? = some x) (hy : ys[i]? = some y)
    (hQ : ∀ h', IsZip h' z TI TO (rawInt s.heap.objs.size) → IsPair h' TO x y → SIt h' k1 i1 l1 (i + 1) xs → SIt h' k2 i2 l2 (i + 1) ys → IsPair h' s.heap.objs.size x y → h'.objs.size = s.heap.objs.size + 1 →
      (∀ c o, c ≠ z → c ≠ TO → c ≠ i1 → c ≠ i2 → s.heap.get? c = some o → h'.get? c = some o) → Q (some (.ref s.heap.objs.size)) { s with heap := h' }) : wpAny (model prog w) A (pyNext (.ref z)) Q E s := by
  have hT : s.TypeIs (.ref z) "zip" := ⟨_, hz, rfl⟩
  unfold pyNext
  exact wpAny_bind (wpAny_attempt (wpAny_callSpecial?_slot (name := Str.ofString "__next__") hT F.slot_zip_next
    (wpAny_call_entry F.slot_zip_next hT F.entry_zip_next (nz_item D hz hTI hTO h1 h2 hx hy fun h' a1 a2 a3 a4 a5 a6 a7 => wpAny_pure (hQ h' a1 a2 a3 a4 a5 a6 a7)) (F.args_zip_next_1 _))))
theorem nz_nextEnd {k1 k2 : Bool} {z TI TO i1 i2 l1 l2 : Addr} {i : Nat} {xs ys : Array Value} {a b : Value} {Q : Option Value → Shared → Prop} (hh : A.handled = none) (D : ZipApart z TI TO i1 i2 l1 l2)
    (hz : IsZip s.heap z TI TO .none) (hTI : IsPair s.heap TI (.ref i1) (.ref i2)) (hTO : IsPair s.heap TO a b) (h1 : SIt s.heap k1 i1 l1 i xs) (h2 : SIt s.heap k2 i2 l2 i ys) (hx : xs[i]? = none) (hy : ys[i]? = none)
    (hQ : ∀ h', (∀ c o, c ≠ z → c ≠ TO → c ≠ i1 → c ≠ i2 → s.heap.get? c = some o → h'.get? c = some o) → Q none { s with heap := h' }) : wpAny (model prog w) A (pyNext (.ref z)) Q E s := by
  have hT : s.TypeIs (.ref z) "zip" := ⟨_, hz, rfl⟩
  unfold pyNext
  refine wpAny_bind (wpAny_attempt (wpAny_callSpecial?_slot (name := Str.ofString "__next__") hT F.slot_zip_next
    (wpAny_call_entry F.slot_zip_next hT F.entry_zip_next (nz_end hh D hz hTI hTO h1 h2 hx hy fun h' e hk he => ?_) (F.args_zip_next_1 _))))
  obtain ⟨o, ho, hc⟩ := he
  refine wpAny_bind (wpAny_isInstance (T := "StopIteration") (b := true) ⟨o, ho, hc⟩ isSubtype_stop ?_)
  exact wpAny_pure (hQ _ hk)
end
/-! ### the turns -/
theorem turn_zipN {P : Program} {w : World} {K : PySem.W.Frag} {elts : List Expr} {kk : Nat} {tpos : Pos} {k1 k2 : Bool} {a b z TI TO i1 i2 : Addr} (D : ZipApart z TI TO i1 i2 a b) :
    Turn P w K (.Tuple elts kk tpos) (ItS K k1 k2 a b) [z, TI, TO, i1, i2] z (fun i h => IsZip h z TI TO .none ∧ IsPair h TI (.ref i1) (.ref i2) ∧ (∃ x y, IsPair h TO x y) ∧ KI h k1 i1 a i ∧ KI h k2 i2 b i) where
  mem := by simp
  obj := fun i h st c hc => by
    obtain ⟨hz, hTI, ⟨x, y, hTO⟩, h1, h2⟩ := st
    obtain ⟨o1, e1, d1⟩ := h1.get
    obtain ⟨o2, e2, d2⟩ := h2.get
    have e' : c = z ∨ c = TI ∨ c = TO ∨ c = i1 ∨ c = i2 := by simpa using hc
    rcases e' with q | q | q | q | q
    · rw [q]; exact ⟨_, hz, fun v q => nomatch q⟩
    · rw [q]; exact ⟨_, hTI, fun v q => nomatch q⟩
    · rw [q]; exact ⟨_, hTO, fun v q => nomatch q⟩
    · rw [q]; exact ⟨o1, e1, d1⟩
    · rw [q]; exact ⟨o2, e2, d2⟩
  keep := fun i h h' st k => by
    obtain ⟨hz, hTI, ⟨x, y, hTO⟩, h1, h2⟩ := st
    exact ⟨k z (by simp) _ hz, k TI (by simp) _ hTI, ⟨x, y, k TO (by simp) _ hTO⟩, h1.at fun o q => k i1 (by simp) o q, h2.at fun o q => k i2 (by simp) o q⟩
  item := by
    intro X hP hw hK hc i pins s σ H E I hf st hg
    subst hP hw hK
    obtain ⟨hz, hTI, ⟨x0, y0, hTO⟩, h1, h2⟩ := st
    obtain ⟨xs, ys, x, y, hqx, hqy, hx, hy⟩ := hg
    obtain ⟨its, rv, p⟩ := sqk_its I hqx
    obtain ⟨its2, rv2, p2⟩ := sqk_its I hqy
    obtain ⟨u, hu, ru⟩ := rv.get hx
    obtain ⟨u2, hu2, ru2⟩ := rv2.get hy
    have hzl : z < s.heap.objs.size := Heap.lt_size hz
    refine nz_nextItem D hz hTI hTO (p h1) (p2 h2) (x := u) (y := u2) (by simpa using hu) (by simpa using hu2) fun h' z' TO' h1' h2' hT hsz hk => ?_
    refine ⟨_, rfl, wpAny_letOwnedTupleGo_zip (s := { s with heap := h' }) z' fun h'' z'' sb => ?_⟩
    have hT2 : h''.get? s.heap.objs.size = some { cls := .type "tuple", data := .seq #[u, u2] } := (sb.2 _ (Nat.ne_of_gt hzl)).trans hT
    have new : ObjOk X.prog X.w (upd H s.heap.objs.size (.tup [x, y])) h'' s.heap.objs.size (.tup [x, y]) :=
      ⟨by show 2 ≤ sizeLine; decide, [u, u2], .cons ru (.cons ru2 .nil), ⟨_, hT2, rfl, _, rfl⟩⟩
    have I1 : Inv X pins σ (upd H s.heap.objs.size (.tup [x, y])) { s with heap := h'' } :=
      I.turnedNew (t' := s.toks) (ch := [z, TI, TO, i1, i2]) (fun c o hb q => (sb.2 c (fun q' => hb (by simp [q']))).trans (hk c o (fun q' => hb (by simp [q'])) (fun q' => hb (by simp [q'])) (fun q' => hb (by simp [q'])) (fun q' => hb (by simp [q'])) q)) hf (Nat.le_refl _) new
    refine ⟨.ref s.heap.objs.size, _, I1, rfl, ⟨_, x, y, rfl, I.hok.fresh (Nat.le_refl _), rfl, fun l hl => by rw [sqk_inj I hl hqx]; exact hx, fun l hl => by rw [sqk_inj I hl hqy]; exact hy⟩, ⟨z'', ?_, ⟨u, u2, ?_⟩, ?_, ?_⟩, fun c hcm => ?_⟩
    · exact (sb.2 _ D.TIz).trans (hk _ _ D.TIz D.TITO D.TIi1 D.TIi2 hTI)
    · exact (sb.2 _ D.TOz).trans TO'
    · exact h1'.ki.at fun o q => (sb.2 _ D.i1z).trans q
    · exact h2'.ki.at fun o q => (sb.2 _ D.i2z).trans q
    · have hlt : c < s.heap.objs.size := by
        have e' : c = z ∨ c = TI ∨ c = TO ∨ c = i1 ∨ c = i2 := by simpa using hcm
        rcases e' with q | q | q | q | q
        · rw [q]; exact hzl
        · rw [q]; exact Heap.lt_size hTI
        · rw [q]; exact Heap.lt_size hTO
        · rw [q]; obtain ⟨_, e1, _⟩ := h1.get; exact Heap.lt_size e1
        · rw [q]; obtain ⟨_, e2, _⟩ := h2.get; exact Heap.lt_size e2
      rw [upd_ne (Nat.ne_of_lt hlt)]
      exact (hf c hcm).1
  done := by
    intro X hP hw hK hc i pins s σ H E I hf st hg
    subst hP hw hK
    obtain ⟨hz, hTI, ⟨x0, y0, hTO⟩, h1, h2⟩ := st
    obtain ⟨xs, ys, hqx, hqy, he1, he2⟩ := hg
    obtain ⟨its, rv, p⟩ := sqk_its I hqx
    obtain ⟨its2, rv2, p2⟩ := sqk_its I hqy
    have l1 := rv.length
    have l2 := rv2.length
    exact nz_nextEnd (I.ok.hd hc) D hz hTI hTO (p h1) (p2 h2) (by simp; omega) (by simp; omega) fun h' hk => ⟨rfl, I.turnedL (t' := s.toks) (ch := [z, TI, TO, i1, i2]) (fun c o hb q => hk c o (fun q' => hb (by simp [q'])) (fun q' => hb (by simp [q'])) (fun q' => hb (by simp [q'])) (fun q' => hb (by simp [q'])) q) hf⟩
  self := fun A i s Q E st h => wpAny_pyIter_zip st.1 h
def iZipN (K : PySem.W.Frag) (ta : TA) : TI := fun σ H R => ta σ H fun vs H1 => ∃ (k1 k2 : Bool) (a b : Addr) (xs ys : List V), vs = [.ref a, .ref b] ∧ SqK K H1 k1 a xs ∧ SqK K H1 k2 b ys ∧ R (ItS K k1 k2 a b) H1
section
variable {X : Cx} {pins : List (Addr × Obj)} {σ : L2.St} {H : Hp} {s : Shared}
theorem sqk_begins {k : Bool} {a : Addr} {xs : List V} (I : Inv X pins σ H s) (h : SqK X.K H k a xs) : ∃ (o : Obj) (H1 : Heap → Prop), Begins (.ref a) o H1 ∧ H1 s.heap ∧ a < s.heap.objs.size ∧ ∀ (h' : Heap) (it : Addr), h'.get? it = some o → KI h' k it a 0 := by
  cases k with
  | true =>
    obtain ⟨i1, v1, p1, _⟩ := I.tuple h
    obtain ⟨o1, ho1, _⟩ := id p1
    exact ⟨_, _, begins_tuple a i1.toArray, (show s.heap.IsTuple a i1.toArray from p1), Heap.lt_size ho1, fun h' it g => (show h'.IsTupleIter it a 0 from ⟨_, g, rfl, rfl⟩)⟩
  | false =>
    obtain ⟨i1, v1, p1, _⟩ := I.list h
    exact ⟨_, _, begins_list a i1.toArray, p1.isList, p1.lt, fun h' it g => (show h'.IsListIter it a 0 from ⟨_, g, rfl, rfl⟩)⟩
end
theorem pi_zipN {X : Cx} {e e2 : Expr} {ta : TA} {p pos tpos : Pos} {elts : List Expr} {kk : Nat} (hg : Gl X "zip") (hm : X.mg "zip" = none) (ha : PA X [e, e2] ta)
    (hs : starEach [e, e2] X.env = (false, eval e X.env) :: starEach [e2] X.env := by rfl) (hpl : (backTo pos (starEach [e2] X.env)).any (·.1) = false := by rfl) :
    PI X (.Tuple elts kk tpos) (.Call (.Name "zip" p) [e, e2] [] pos) (iZipN X.K ta) := by
  refine ⟨fun pins s σ H R I h => ?_⟩
  refine Call_ (ld_blt I hg hm PyProof.Rows.boot_zip (PyProof.Rows.callWith_type1 (thn (ha.run pos pins s σ H _ I h) fun us s2 ⟨vs, H2, I2, r1, q1⟩ => ?_) hs hpl))
  obtain ⟨k1, k2, a, b, xs, ys, ex, hqx, hqy, q⟩ := q1
  subst ex
  cases r1 with
  | cons r rr =>
    cases rr with
    | cons r' rr =>
      cases rr
      cases r
      cases r'
      have fresh5 : ∀ c, c ∈ [s2.heap.objs.size + 4, s2.heap.objs.size + 2, s2.heap.objs.size + 3, s2.heap.objs.size, s2.heap.objs.size + 1] → FpOk X pins H2 c := fun c hcm => by
        have e' : c = s2.heap.objs.size + 4 ∨ c = s2.heap.objs.size + 2 ∨ c = s2.heap.objs.size + 3 ∨ c = s2.heap.objs.size ∨ c = s2.heap.objs.size + 1 := by simpa using hcm
        have hle : s2.heap.objs.size ≤ c := by omega
        exact I2.fpOk hle (I2.hok.fresh hle)
      obtain ⟨o1, P1, B1, w1, l1, g1'⟩ := sqk_begins I2 hqx
      obtain ⟨o2, P2, B2, w2, l2, g2'⟩ := sqk_begins I2 hqy
      refine zip_begins2 B1 B2 w1 w2 fun h' hz hTI hTO g1 g2 hsz hk => wpAny_pyIter_zip hz ?_
      exact ⟨s2.heap.objs.size + 4, [s2.heap.objs.size + 4, s2.heap.objs.size + 2, s2.heap.objs.size + 3, s2.heap.objs.size, s2.heap.objs.size + 1], _, _, H2, rfl, I2.kept (t' := s2.toks) hk, turn_zipN (k1 := k1) (k2 := k2) (PySem.W.ktu_apart s2.heap.objs.size a b l1 l2), ⟨hz, hTI, ⟨_, _, hTO⟩, g1' _ _ g1, g2' _ _ g2⟩, fresh5, q⟩
end Bk
set_option Elab.async false
set_option linter.all false
set_option maxRecDepth 100000
set_option maxHeartbeats 4000000
/-! Bk27: readers as data: counts and rules; what is amiss in one. -/
namespace Bk
open PySem PySem.Spec PyProof.Rows L2
abbrev Fx := Int × Int
abbrev Tm := Fx × List (Option Int)
abbrev Sm := List Tm
abbrev Rl := List Sm
abbrev Rd := List Int × List Rl
def fxD (f : Fx) : D := .tup [.int f.1, .int f.2]
def bxD : Option Int → D
  | none => .non
  | some i => .int i
def tmD (t : Tm) : D := .tup [fxD t.1, .tup (t.2.map bxD)]
def smD (s : Sm) : D := .tup (s.map tmD)
def rlD (r : Rl) : D := .tup (r.map smD)
def rdD (r : Rd) : D := .tup [.tup (r.1.map D.int), .tup (r.2.map rlD)]
theorem Reps.ints {H : Hp} : ∀ {is : List Int} {vs : List V}, Reps H (is.map D.int) vs → vs = is.map V.int
  | [], vs, h => by simpa only [List.map, Reps] using h
  | i :: is, vs, h => by
    rw [List.map_cons] at h
    obtain ⟨v, r, rfl, hv, hr⟩ := h
    rw [Reps.ints hr]
    have : v = .int i := by simpa only [Rep] using hv
    rw [this]
    rfl
theorem Reps.two {H : Hp} {d e : D} {vs : List V} (h : Reps H [d, e] vs) : ∃ x y, vs = [x, y] ∧ Rep H d x ∧ Rep H e y := by
  obtain ⟨x, r, rfl, hx, h⟩ := h
  obtain ⟨y, r, rfl, hy, h⟩ := h
  have : r = [] := by simpa only [Reps] using h
  subst this
  exact ⟨x, y, rfl, hx, hy⟩
theorem fx_at {H : Hp} {f : Fx} {v : V} (h : Rep H (fxD f) v) : ∃ p, v = .ref p ∧ H p = some (.tup [.int f.1, .int f.2]) := by
  obtain ⟨a, xs, rfl, ha, rs⟩ := Rep.tupI h
  obtain ⟨x, y, rfl, hx, hy⟩ := rs.two
  have e1 : x = .int f.1 := by simpa only [Rep] using hx
  have e2 : y = .int f.2 := by simpa only [Rep] using hy
  subst e1 e2
  exact ⟨a, rfl, ha⟩
theorem Rep.fx {H : Hp} {f : Fx} {p : Addr} (h : H p = some (.tup [.int f.1, .int f.2])) : Rep H (fxD f) (.ref p) := Rep.two h (Rep.i _) (Rep.i _)
theorem Rep.tupO {H : Hp} {ds : List D} {a : Addr} {xs : List V} (ha : H a = some (.tup xs)) (h : Reps H ds xs) : Rep H (.tup ds) (.ref a) := by
  simp only [Rep]
  exact ⟨a, xs, rfl, ha, h⟩
theorem boxes_hard : ∀ bs : List (Option Int), D.hards (bs.map bxD) = true
  | [] => rfl
  | b :: bs => by
    show ((bxD b).hard && D.hards (bs.map bxD)) = true
    rw [boxes_hard bs]
    cases b <;> rfl
theorem tm_hard (t : Tm) : (tmD t).hard = true := by
  show ((fxD t.1).hard && (D.hards (t.2.map bxD) && true)) = true
  rw [boxes_hard]
  rfl
theorem hards_map {α : Type} {f : α → D} (h : ∀ x, (f x).hard = true) : ∀ xs : List α, D.hards (xs.map f) = true
  | [] => rfl
  | x :: xs => by
    show ((f x).hard && D.hards (xs.map f)) = true
    rw [h x, hards_map h xs]
    rfl
theorem sm_hard (s : Sm) : (smD s).hard = true := hards_map tm_hard s
theorem rl_hard (r : Rl) : (rlD r).hard = true := hards_map sm_hard r
theorem rd_hard (r : Rd) : (rdD r).hard = true := by
  show (D.hards (r.1.map D.int) && (D.hards (r.2.map rlD) && true)) = true
  rw [ints_hard, hards_map rl_hard]
  rfl
/-! ### what is amiss -/
def cntAt (cs : List Int) (n : Int) : Int := cs.getD n.toNat 0
def boxOk (cs : List Int) (p : Int × Option Int) : Bool := match p.2 with
  | none => true
  | some b => decide (0 ≤ b ∧ b < cntAt cs p.1)
/-! ### bounds -/
theorem tab_of : ∀ {w : Wd} {n : Nat} {e : Nat × Mk}, e ∈ tabFrom n w → ∃ (i : Nat) (k : Str × List Mk), w[i]? = some k ∧ e.2 ∈ k.2 ∧ e.1 = n + i
  | [], n, e, h => nomatch h
  | k :: w, n, e, h => by
    rcases List.mem_append.1 (show e ∈ k.2.map (fun m => (n, m)) ++ tabFrom (n + 1) w from h) with h | h
    · obtain ⟨m, hm, rfl⟩ := List.mem_map.1 h
      exact ⟨0, k, rfl, hm, rfl⟩
    · obtain ⟨i, k2, h1, h2, h3⟩ := tab_of h
      exact ⟨i + 1, k2, h1, h2, by omega⟩
theorem dueOf_in {w : Wd} (ok : WoodOk w) {e : Nat × Mk} (he : e ∈ tabFrom 0 w) : e.1 < w.length ∧ (dueOf w e).length = e.2.2.length ∧ e.2.2.length ≤ 2 ∧ ∀ x ∈ dueOf w e, 0 ≤ x ∧ x < (w.length : Nat) := by
  obtain ⟨i, k, hk, hm, he1⟩ := tab_of he
  have hkm := List.mem_of_getElem? hk
  have z := ok.mkr k hkm e.2 hm
  refine ⟨?_, by unfold dueOf; rw [List.length_map], z.2.1, fun x hx => ?_⟩
  · have := (List.getElem?_eq_some_iff.1 hk).1
    omega
  · unfold dueOf at hx
    obtain ⟨s, hs, rfl⟩ := List.mem_map.1 hx
    obtain ⟨k2, hk2, e2⟩ := List.mem_map.1 (z.2.2 s hs)
    obtain ⟨j, hj⟩ := List.mem_iff_getElem?.1 hk2
    rw [← e2, kno_idx ok.knd hj]
    have := (List.getElem?_eq_some_iff.1 hj).1
    omega
/-! ### readers that are drawn -/
theorem zip_at {α β : Type} {as : List α} {bs : List β} {i : Nat} {a : α} {b : β} (ha : as[i]? = some a) (hb : bs[i]? = some b) : (as.zip bs)[i]? = some (a, b) := List.getElem?_zip_eq_some.2 ⟨ha, hb⟩
def FxOk (f : Fx) : Prop := 0 < f.2 ∧ Int.gcd f.1 f.2 = 1 ∧ f.1.natAbs ≤ 1000 ∧ f.2 ≤ 100
def spFx : Sp := fun vs H Q _ => ∃ p : Addr, vs = [.ref p] ∧ Box H p ∧ ∀ (q : Addr) (f : Fx) (H' : Hp), H' q = some (.tup [.int f.1, .int f.2]) → FxOk f → But p H H' → Box H' p → Q (.ref q) H'
structure TmOk (cs ps : List Int) (t : Tm) : Prop where
  num : FxOk t.1
  len : t.2.length = ps.length
  box : (ps.zip t.2).all (boxOk cs) = true
structure RdOkC (m : Int) (w : Wd) (r : Rd) : Prop where
  counts : r.1.length = w.length
  count : ∀ c ∈ r.1, 0 ≤ c ∧ c ≤ m
  rules : r.2.length = (tabFrom 0 w).length
  rule : ∀ (j : Nat) (e : Nat × Mk) (x : Rl), (tabFrom 0 w)[j]? = some e → r.2[j]? = some x → (x.length : Int) = cntAt r.1 e.1 ∧ ∀ s ∈ x, s.length ≤ 6 ∧ ∀ t ∈ s, TmOk r.1 (dueOf w e) t
abbrev RdOk := RdOkC 4
theorem fx_low {u l : Int} (h : 0 < l) : 0 < l.fdiv ((Int.gcd u l : Nat) : Int) ∧ Int.gcd (u.fdiv ((Int.gcd u l : Nat) : Int)) (l.fdiv ((Int.gcd u l : Nat) : Int)) = 1 ∧ (u.fdiv ((Int.gcd u l : Nat) : Int)).natAbs ≤ u.natAbs ∧ l.fdiv ((Int.gcd u l : Nat) : Int) ≤ l := by
  have g0 : 0 < Int.gcd u l := Int.gcd_pos_of_ne_zero_right u (by omega)
  have g1 : ((Int.gcd u l : Nat) : Int) ≠ 0 := by omega
  have d1 : ((Int.gcd u l : Nat) : Int) ∣ u := Int.gcd_dvd_left _ _
  have d2 : ((Int.gcd u l : Nat) : Int) ∣ l := Int.gcd_dvd_right _ _
  have m1 := Int.fdiv_mul_cancel d1
  have m2 := Int.fdiv_mul_cancel d2
  have p2 : 0 < l.fdiv ((Int.gcd u l : Nat) : Int) := by
    refine Int.pos_of_mul_pos_left ?_ (by omega : (0 : Int) < ((Int.gcd u l : Nat) : Int))
    rw [m2]
    exact h
  refine ⟨p2, ?_, fdiv_le g1 d1, ?_⟩
  · have := Int.gcd_mul_right (u.fdiv ((Int.gcd u l : Nat) : Int)) ((Int.gcd u l : Nat) : Int) (l.fdiv ((Int.gcd u l : Nat) : Int))
    rw [m1, m2] at this
    rw [Int.natAbs_natCast] at this
    have e : Int.gcd (u.fdiv ((Int.gcd u l : Nat) : Int)) (l.fdiv ((Int.gcd u l : Nat) : Int)) * Int.gcd u l = 1 * Int.gcd u l := by omega
    exact Nat.eq_of_mul_eq_mul_right g0 e
  · have := fdiv_le g1 d2
    omega
/-! ### readers spoilt -/
theorem tuple_mulE (l : Addr) (items : Array Value) (n : Nat) (dd : Option Addr) (sl : Array (Option Value)) (x : Int) (u : Tok) (c0 : (decide (x < -(2 ^ 63)) || decide (x ≥ 2 ^ 63)) = false) (c1 : (items.isEmpty || x == 1) = true) :
    Meets (Builtin.«tuple.__mul__» ⟨[.ref l, .int x u], []⟩) (fun _ R s => s.heap.get? l = some { cls := .type "tuple", dict := dd, data := .seq items n, slots := sl } ∧ R (.ok (.ret (Value.ref l))) s) :=
  .of_wp fun prog w A R s h => by
    obtain ⟨hp, g, d, tk, os⟩ := s
    obtain ⟨hl, h⟩ := h
    have f1 := AutoSeq1.idx_int
    wp_walk using wpAny_loadPart' hl
    repeat (first
      | (refine wpAny_ite_false (decide_eq_false (by rw [c0]; exact Bool.false_ne_true)) ?_; wp_walk using wpAny_loadPart' hl)
      | (refine wpAny_ite_true (decide_eq_true (by rw [c1])) ?_; wp_walk using wpAny_loadPart' hl)
      | (refine wpAny_ite_true (by simp [c1]) ?_; wp_walk using wpAny_loadPart' hl))
    exact ⟨_, rfl, h⟩
def rRepTn (K : PySem.W.Frag) : R2 := fun x y H Q => ∃ (l : Addr) (k : Int) (xs : List V), x = .ref l ∧ y = .int k ∧ H l = some (.tup xs) ∧ xs.length ≤ 1000 ∧ 0 ≤ k ∧ k ≤ 1000 ∧
  ∀ p H', Ex H H' → H' p = some (.tup (List.replicate k.toNat xs).flatten) → Q (.ref p) H'
section
variable {X : Cx}
theorem op_repTn : OpR X (binaryOp .Mult) (rRepTn X.K) := by
  intro pins s σ H x y v u Q I rx ry h
  obtain ⟨l, k, xs, e1, e2, hT, hl, k0, k1, q⟩ := h
  have he : ∀ ys : List V, ys = (List.replicate k.toNat xs).flatten → ∀ p, H p = some (.tup ys) → Q (.ref p) H := fun ys e p hp => q p H (Ex.refl _) (by rw [← e]; exact hp)
  by_cases c2 : xs ≠ [] ∧ 2 ≤ k
  · exact op_repT pins s σ H x y v u Q I rx ry ⟨l, k, xs, e1, e2, sqT hT, c2.1, c2.2, k1, hl, fun p hp => q p _ (Ex.new hp) upd_same⟩
  subst e1 e2
  cases rx
  obtain ⟨t, rfl⟩ := ry
  obtain ⟨its, r, ⟨⟨cls, dd, data, sl⟩, ho, hc, n, hd⟩, hs⟩ := I.tuple (sqT hT)
  simp only at hc hd
  subst hc hd
  have F1 := @wpAny_binaryOp_repeat_ref
  by_cases c3 : xs = [] ∨ k = 1
  · have c4 : (its.toArray.isEmpty || k == 1) = true := by
      rcases c3 with rfl | rfl
      · cases r
        rfl
      · simp
    refine wpAny_binaryOp_repeat_ref (T := "tuple") (U := "int") (by decide) ⟨_, ho, rfl⟩ (fun s' => typeIs_int s' k t) noFill_tuple_mul F.fills_int_mul F.slot_int_rmul repeat_tuple F.slot_int_index.lookup
      (call_meets F.slot_int_rmul (typeIs_int s k t) F.entry_int_rmul (F.args_int_rmul_2 _ _) (int_rmul_tuple k t l its.toArray n dd sl)
        ⟨ho, rfl, ⟨_, ho, rfl⟩, call_meets F.slot_tuple_mul ⟨_, ho, rfl⟩ F.entry_tuple_mul (F.args_tuple_mul_2 _ _) (tuple_mulE l its.toArray n dd sl k t (by rw [decide_eq_false (by omega), decide_eq_false (by omega)]; rfl) c4) ⟨ho, ?_⟩⟩)
    refine ⟨.ref l, H, I, rfl, he xs ?_ l hT⟩
    rcases c3 with rfl | rfl
    · generalize k.toNat = m
      induction m with
      | zero => rfl
      | succ m ih => exact ih
    · show xs = (List.replicate 1 xs).flatten
      simp
  · have k2 : k = 0 := Classical.byContradiction fun z => c2 ⟨fun e => c3 (.inl e), by
      have : k ≠ 1 := fun e => c3 (.inr e)
      omega⟩
    subst k2
    have ne : its.toArray.isEmpty = false := by
      cases r with
      | nil => exact absurd (.inl rfl) c3
      | cons a b => rfl
    refine wpAny_binaryOp_repeat_ref (T := "tuple") (U := "int") (by decide) ⟨_, ho, rfl⟩ (fun s' => typeIs_int s' 0 t) noFill_tuple_mul F.fills_int_mul F.slot_int_rmul repeat_tuple F.slot_int_index.lookup
      (call_meets F.slot_int_rmul (typeIs_int s 0 t) F.entry_int_rmul (F.args_int_rmul_2 _ _) (int_rmul_tuple 0 t l its.toArray n dd sl)
        ⟨ho, rfl, ⟨_, ho, rfl⟩, call_meets F.slot_tuple_mul ⟨_, ho, rfl⟩ F.entry_tuple_mul (F.args_tuple_mul_2 _ _) (tuple_mul0 l its.toArray n dd sl t (by rw [ne]; rfl)) ⟨ho, ?_⟩⟩)
    refine ⟨.ref s.heap.objs.size, _, I.laid (t' := s.toks) (o := .tup []) (fun b ob q => Heap.get?_push_of_some _ q) (Nat.le_refl _) ?_, rfl, q _ _ (Ex.new (I.hok.fresh (Nat.le_refl _))) upd_same⟩
    exact ⟨by decide, _, .nil, IsTup.new _ _⟩
end
theorem g_repTn {K : PySem.W.Frag} {H : Hp} {Q : VK} {l : Addr} {k : Int} {xs : List V} (hl : H l = some (.tup xs)) (hx : xs.length ≤ 1000) (k0 : 0 ≤ k) (k1 : k ≤ 1000) (q : ∀ p H', Ex H H' → H' p = some (.tup (List.replicate k.toNat xs).flatten) → Q (.ref p) H') : rRepTn K (.ref l) (.int k) H Q := ⟨l, k, xs, rfl, rfl, hl, hx, k0, k1, q⟩
end Bk
set_option Elab.async false
set_option linter.all false
set_option maxRecDepth 100000
set_option maxHeartbeats 4000000
/-! Bk28: readers spoilt, within bounds. -/
namespace Bk
open PySem PySem.Spec PyProof.Rows L2
def TmN (n : Nat) (t : Tm) : Prop := t.2.length ≤ 2 + n ∧ Bits 20 t.1.1 ∧ Bits 20 t.1.2
def SmN (n : Nat) (s : Sm) : Prop := s.length ≤ 6 + n ∧ ∀ t ∈ s, TmN n t
def RlN (n : Nat) (x : Rl) : Prop := x.length ≤ 4 + n ∧ ∀ s ∈ x, SmN n s
structure RdN (n : Nat) (r : Rd) : Prop where
  counts : r.1.length ≤ 4 + n
  rules : r.2.length ≤ 12 + n
  rule : ∀ x ∈ r.2, RlN n x
theorem TmN.le {n m : Nat} {t : Tm} (h : TmN n t) (hm : n ≤ m) : TmN m t := ⟨by have := h.1; omega, h.2⟩
theorem SmN.le {n m : Nat} {s : Sm} (h : SmN n s) (hm : n ≤ m) : SmN m s := ⟨by have := h.1; omega, fun t ht => (h.2 t ht).le hm⟩
theorem RlN.le {n m : Nat} {x : Rl} (h : RlN n x) (hm : n ≤ m) : RlN m x := ⟨by have := h.1; omega, fun s hs => (h.2 s hs).le hm⟩
theorem RdN.le {n m : Nat} {r : Rd} (h : RdN n r) (hm : n ≤ m) : RdN m r := ⟨by have := h.counts; omega, by have := h.rules; omega, fun x hx => (h.rule x hx).le hm⟩
theorem RdOk.n0 {w : Wd} (ok : WoodOk w) {r : Rd} (h : RdOk w r) : RdN 0 r := by
  refine ⟨by have := h.counts; have := ok.kinds; omega, by have := h.rules; have := ok.many; omega, fun x hx => ?_⟩
  obtain ⟨j, hj⟩ := List.mem_iff_getElem?.1 hx
  have hl := (List.getElem?_eq_some_iff.1 hj).1
  rw [h.rules] at hl
  have he := List.getElem?_eq_getElem hl
  obtain ⟨h1, h2⟩ := h.rule j _ x he hj
  obtain ⟨ek, dl, d2, din⟩ := dueOf_in ok (List.getElem_mem hl)
  have hc : cntAt r.1 ((tabFrom 0 w)[j]).1 ≤ 4 := by
    unfold cntAt
    rw [List.getD_eq_getElem?_getD]
    have hl2 : (((tabFrom 0 w)[j]).1 : Int).toNat < r.1.length := by
      rw [h.counts]
      omega
    rw [List.getElem?_eq_getElem hl2]
    exact (h.count _ (List.getElem_mem hl2)).2
  refine ⟨by omega, fun s hs => ⟨(h2 s hs).1, fun t ht => ?_⟩⟩
  have z := (h2 s hs).2 t ht
  refine ⟨by rw [z.len, dl]; omega, ?_, ?_⟩
  · exact Nat.lt_of_le_of_lt z.num.2.2.1 (by decide)
  · have := z.num
    have e : t.1.2.natAbs ≤ 100 := by
      have := this.1
      have := this
      have := z.num.2.2.2
      omega
    exact Nat.lt_of_le_of_lt e (by decide)
theorem dp_reps {α : Type} {K : PySem.W.Frag} {H : Hp} {f : α → D} {k : Nat} {as : List α} {xs : List V} (h : ∀ a v, Rep H (f a) v → DpOk K H v k) (r : Reps H (as.map f) xs) : ∀ x ∈ xs, DpOk K H x k := fun x hx => by
  obtain ⟨j, hj⟩ := List.mem_iff_getElem?.1 hx
  obtain ⟨d, hd, rd⟩ := r.get hj
  rw [List.getElem?_map] at hd
  cases e : as[j]? with
  | none => rw [e] at hd; cases hd
  | some a =>
    rw [e] at hd
    cases hd
    exact h a x rd
/-! ### what stands while a box is drawn from -/
def Kp (p : Addr) (H H' : Hp) : Prop := But p H H' ∧ Box H' p ∧ Tk H H'
theorem Kp.refl {p : Addr} {H : Hp} (h : Box H p) : Kp p H H := ⟨But.refl _ _, h, Tk.refl _⟩
theorem Kp.but {p : Addr} {H H1 H2 : Hp} (k : Kp p H H1) (b : But p H1 H2) (hb : Box H2 p) : Kp p H H2 := ⟨k.1.trans b, hb, k.2.2.trans (k.2.1.tk b)⟩
theorem Kp.ex {p : Addr} {H H1 H2 : Hp} (k : Kp p H H1) (e : Ex H1 H2) : Kp p H H2 := k.but (e.but p) (k.2.1.ex e)
theorem Kp.new {p a : Addr} {H H1 : Hp} {o : HO} (k : Kp p H H1) (h : H1 a = none) : Kp p H (upd H1 a o) := k.ex (Ex.new h)
theorem Kp.trans {p : Addr} {H H1 H2 : Hp} (k : Kp p H H1) (k2 : Kp p H1 H2) : Kp p H H2 := k.but k2.1 k2.2.1
theorem Reps.tkm {α : Type} {f : α → D} {H H' : Hp} {as : List α} {xs : List V} (t : Tk H H') (hf : ∀ a, (f a).hard = true) (r : Reps H (as.map f) xs) : Reps H' (as.map f) xs := Reps.tk t (hards_map hf as) r
theorem Kp.free {p a : Addr} {H H1 : Hp} (k : Kp p H H1) (h : H1 a = none) : H a = none := by
  have n := k.2.1.ne h
  cases e : H a with
  | none => rfl
  | some o =>
    have := k.1 a o n e
    rw [h] at this
    cases this
theorem Kp.ne {p a : Addr} {H H1 : Hp} (k : Kp p H H1) (h : H1 a = none) : a ≠ p := k.2.1.ne h
/-! ### what is told is text -/
end Bk
set_option Elab.async false
set_option linter.all false
set_option maxRecDepth 100000
set_option maxHeartbeats 4000000
/-! Bk29: fractions added and multiplied, how great they become. -/
namespace Bk
open PySem PySem.Spec PyProof.Rows L2
/-- the lower number goes into N, the worth is at most A -/
structure Szf (A N : Nat) (f : Fx) : Prop where
  pos : 0 < f.2
  dvd : f.2.natAbs ∣ N
  le : f.1.natAbs ≤ A * f.2.natAbs
def lowF (u l : Int) : Fx := (fru u l, frl u l)
def mulF (f g : Fx) : Fx := lowF (f.1 * g.1) (f.2 * g.2)
def addF (f g : Fx) : Fx := lowF (f.1 * g.2 + g.1 * f.2) (f.2 * g.2)
theorem Szf.mono {A B N M : Nat} {f : Fx} (h : Szf A N f) (ha : A ≤ B) (hn : N ∣ M) : Szf B M f := ⟨h.pos, Nat.dvd_trans h.dvd hn, Nat.le_trans h.le (Nat.mul_le_mul_right _ ha)⟩
theorem low_parts {u l : Int} (h : 0 < l) : fru u l * (Int.gcd u l : Nat) = u ∧ frl u l * (Int.gcd u l : Nat) = l ∧ 0 < frl u l ∧ Nat.gcd (fru u l).natAbs (frl u l).natAbs = 1 := by
  have e : fpt u l = (Int.gcd u l : Nat) := if_neg (by omega)
  obtain ⟨f1, f2, _, _⟩ := fx_low (u := u) h
  have d1 : ((Int.gcd u l : Nat) : Int) ∣ u := Int.gcd_dvd_left _ _
  have d2 : ((Int.gcd u l : Nat) : Int) ∣ l := Int.gcd_dvd_right _ _
  unfold fru frl
  rw [e]
  exact ⟨Int.fdiv_mul_cancel d1, Int.fdiv_mul_cancel d2, f1, f2⟩
theorem low_sz {A N : Nat} {u l c : Int} (h : 0 < l) (hN : u * (N : Int) = c * l) (hA : u.natAbs ≤ A * l.natAbs) : Szf A N (lowF u l) := by
  obtain ⟨e1, e2, e3, e4⟩ := low_parts (u := u) h
  have g0 : 0 < Int.gcd u l := Int.gcd_pos_of_ne_zero_right u (by omega)
  have g1 : ((Int.gcd u l : Nat) : Int) ≠ 0 := by omega
  refine ⟨e3, ?_, ?_⟩
  · show (frl u l).natAbs ∣ N
    have k : fru u l * (N : Int) = c * frl u l := by
      refine Int.eq_of_mul_eq_mul_right g1 ?_
      rw [Int.mul_assoc, Int.mul_comm (N : Int), ← Int.mul_assoc, e1, hN, Int.mul_assoc, e2]
    have k2 : (frl u l).natAbs ∣ (fru u l).natAbs * N := by
      refine ⟨c.natAbs, ?_⟩
      have := congrArg Int.natAbs k
      rw [Int.natAbs_mul, Int.natAbs_mul, Int.natAbs_natCast] at this
      rw [this, Nat.mul_comm]
    exact Nat.Coprime.dvd_of_dvd_mul_left (Nat.Coprime.symm e4) k2
  · show (fru u l).natAbs ≤ A * (frl u l).natAbs
    refine Nat.le_of_mul_le_mul_right ?_ g0
    have a1 := congrArg Int.natAbs e1
    have a2 := congrArg Int.natAbs e2
    rw [Int.natAbs_mul, Int.natAbs_natCast] at a1 a2
    rw [a1, Nat.mul_assoc, a2]
    exact hA
theorem Szf.mul {A B N M : Nat} {f g : Fx} (h : Szf A N f) (k : Szf B M g) : Szf (A * B) (N * M) (mulF f g) := by
  obtain ⟨x, hx⟩ := Nat.mul_dvd_mul h.dvd k.dvd
  have e : (f.2 * g.2).natAbs = f.2.natAbs * g.2.natAbs := Int.natAbs_mul _ _
  refine low_sz (c := f.1 * g.1 * (x : Int)) (Int.mul_pos h.pos k.pos) ?_ ?_
  · have e2 : ((N * M : Nat) : Int) = (f.2 * g.2) * (x : Int) := by
      rw [hx, Int.natCast_mul, Int.natCast_mul, Int.natAbs_of_nonneg (Int.le_of_lt h.pos), Int.natAbs_of_nonneg (Int.le_of_lt k.pos)]
    rw [e2]
    ac_rfl
  · rw [Int.natAbs_mul, e]
    refine Nat.le_trans (Nat.mul_le_mul h.le k.le) ?_
    exact Nat.le_of_eq (by rw [Nat.mul_mul_mul_comm])
theorem Szf.add {A B N : Nat} {f g : Fx} (h : Szf A N f) (k : Szf B N g) : Szf (A + B) N (addF f g) := by
  obtain ⟨x, hx⟩ := h.dvd
  obtain ⟨y, hy⟩ := k.dvd
  have e : (f.2 * g.2).natAbs = f.2.natAbs * g.2.natAbs := Int.natAbs_mul _ _
  have p1 : (N : Int) = f.2 * (x : Int) := by rw [hx, Int.natCast_mul, Int.natAbs_of_nonneg (Int.le_of_lt h.pos)]
  have p2 : (N : Int) = g.2 * (y : Int) := by rw [hy, Int.natCast_mul, Int.natAbs_of_nonneg (Int.le_of_lt k.pos)]
  refine low_sz (c := f.1 * (x : Int) + g.1 * (y : Int)) (Int.mul_pos h.pos k.pos) ?_ ?_
  · rw [Int.add_mul, Int.add_mul]
    congr 1
    · rw [p1]
      ac_rfl
    · rw [p2]
      ac_rfl
  · refine Nat.le_trans (Int.natAbs_add_le _ _) ?_
    rw [Int.natAbs_mul, Int.natAbs_mul, e, Nat.add_mul]
    refine Nat.add_le_add ?_ ?_
    · refine Nat.le_trans (Nat.mul_le_mul_right _ h.le) (Nat.le_of_eq ?_)
      rw [Nat.mul_assoc]
    · refine Nat.le_trans (Nat.mul_le_mul_right _ k.le) (Nat.le_of_eq ?_)
      rw [Nat.mul_assoc, Nat.mul_comm g.2.natAbs]
theorem Szf.bits {A N n m : Nat} {f : Fx} (h : Szf A N f) (hN : N < 2 ^ n) (hA : A < 2 ^ m) (h0 : 0 < N) : Bits n f.2 ∧ Bits (m + n) f.1 := by
  have l2 : f.2.natAbs ≤ N := Nat.le_of_dvd h0 h.dvd
  refine ⟨Nat.lt_of_le_of_lt l2 hN, ?_⟩
  show f.1.natAbs < 2 ^ (m + n)
  refine Nat.lt_of_le_of_lt h.le ?_
  rw [Nat.pow_add]
  refine Nat.lt_of_le_of_lt (Nat.mul_le_mul_left _ l2) ?_
  exact Nat.mul_lt_mul'' hA hN
/-- the contract of a law's own sum and product -/
def spArF (op : Fx → Fx → Fx) : Sp := fun vs H Q _ => ∃ (p r : Addr) (f g : Fx), vs = [.ref p, .ref r] ∧ H p = some (.tup [.int f.1, .int f.2]) ∧ H r = some (.tup [.int g.1, .int g.2]) ∧ 0 < f.2 ∧ 0 < g.2 ∧ Bits 6500 f.1 ∧ Bits 5500 f.2 ∧ Bits 6500 g.1 ∧ Bits 5500 g.2 ∧
  ∀ q H', Ex H H' → H' q = some (.tup [.int (op f g).1, .int (op f g).2]) → Q (.ref q) H'
theorem lowF_eq {u l : Int} (h : 0 < l) : lowF u l = (u.fdiv (Int.gcd u l : Nat), l.fdiv (Int.gcd u l : Nat)) := by
  have e : fpt u l = (Int.gcd u l : Nat) := if_neg (by omega)
  unfold lowF fru frl
  rw [e]
theorem Bits.cmW {n m : Nat} {i j : Int} (h : Bits n i) (g : Bits m j) (hn : 0 < n := by decide) (hm : 0 < m := by decide) (hs : n + m ≤ 1000000 := by decide) : CMm i j := .inr (wide_mul h g hn hm hs)
def fxsD (fs : List Fx) : D := .tup (fs.map fxD)
def stepF (f : Fx) (x : List Fx × Option Int) : Fx := match x.2 with
  | none => f
  | some i => mulF f (x.1.getD i.toNat (0, 1))
def prodF (f : Fx) (l : List (List Fx × Option Int)) : Fx := l.foldl stepF f
def plusF (parts : List (List Fx)) (f : Fx) (t : Tm) : Fx := addF f (prodF t.1 (parts.zip t.2))
def sumF (parts : List (List Fx)) (s : Sm) : Fx := s.foldl (plusF parts) (0, 1)
def madeF (parts : List (List Fx)) (r : Rl) : List Fx := r.map (sumF parts)
/-- a sum's terms fit: as many boxes as parts, each there, no product too great -/
structure FitS (A N : Nat) (parts : List (List Fx)) (s : Sm) : Prop where
  many : s.length ≤ 6
  term : ∀ t ∈ s, t.2.length = parts.length ∧ (∀ (j : Nat) (p : List Fx) (i : Int), parts[j]? = some p → t.2[j]? = some (some i) → 0 ≤ i ∧ i < (p.length : Nat)) ∧ ∀ j, Szf A N (prodF t.1 ((parts.zip t.2).take j))
structure FitP (A N : Nat) (parts : List (List Fx)) : Prop where
  nat : 0 < N
  lower : N < 2 ^ 5500
  upper : 6 * A < 2 ^ 1000
  part : ∀ p ∈ parts, ∀ f ∈ p, Szf A N f
theorem FitP.num {A N : Nat} {parts : List (List Fx)} (h : FitP A N parts) {B : Nat} {f : Fx} (hB : B ≤ 6 * A) (s : Szf B N f) : 0 < f.2 ∧ Bits 6500 f.1 ∧ Bits 5500 f.2 := by
  have z := s.bits h.lower (Nat.lt_of_le_of_lt hB h.upper) h.nat
  exact ⟨s.pos, z.2.le, z.1.le⟩
theorem fx_hard (f : Fx) : (fxD f).hard = true := rfl
end Bk
set_option Elab.async false
set_option linter.all false
set_option maxRecDepth 100000
set_option maxHeartbeats 4000000
/-! Bk30: zip(a, b, c) of lists and tuples of one length. -/
namespace Bk
open PySem PySem.Spec PyProof.Rows L2
end Bk
set_option Elab.async false
set_option linter.all false
set_option maxRecDepth 100000
set_option maxHeartbeats 4000000
/-! Bk31: readers as deeds. -/
namespace Bk
open PySem PySem.Spec PyProof.Rows L2
/-! ### contracts -/
theorem rep01 {u : V} (b : Bool) : ∃ k : Int, b2z b = k ∧ 0 ≤ k ∧ k ≤ 1 ∧ (List.replicate k.toNat [u]).flatten = if b = true then [u] else [] := by
  cases b with
  | true => exact ⟨1, rfl, by decide, by decide, rfl⟩
  | false => exact ⟨0, rfl, by decide, by decide, rfl⟩
theorem g_rep01 {H : Hp} {Q : VK} {l : Addr} {u : V} {b : Bool} (hl : H l = some (.lst [u])) (q : ∀ p, H p = none → Q (.ref p) (upd H p (.lst (if b = true then [u] else [])))) : rRep (.ref l) (.int (b2z b)) H Q := by
  obtain ⟨k, ek, k0, k1, er⟩ := rep01 (u := u) b
  rw [ek]
  refine ⟨l, k, _, rfl, rfl, hl, by omega, by omega, Nat.le_trans (show 1 * k.toNat ≤ 1 by omega) (by decide), fun p hp => ?_⟩
  rw [er]
  exact q p hp
end Bk
set_option Elab.async false
set_option linter.all false
set_option maxRecDepth 100000
set_option maxHeartbeats 4000000
/-! Bk32: deeds done on a bench. -/
namespace Bk
open PySem PySem.Spec PyProof.Rows L2
def LowF (f : Fx) : Prop := 0 < f.2 ∧ Int.gcd f.1 f.2 = 1
/-! ### the same fractions compared -/
end Bk
set_option Elab.async false
set_option linter.all false
set_option maxRecDepth 100000
set_option maxHeartbeats 4000000
/-! Bk33: small fractions in boxes; readers told as deeds. -/
namespace Bk
open PySem PySem.Spec PyProof.Rows L2
/-- a number that 1 to 100 go into -/
def lcmA : Nat := 69720375229712477164533808935312303556800
theorem lcm_dvd {l : Nat} (h0 : 0 < l) (h1 : l ≤ 100) : l ∣ lcmA := by
  have a : (List.range 101).all (fun l => l == 0 || lcmA % l == 0) = true := by decide +kernel
  have z := List.all_eq_true.1 a l (List.mem_range.2 (by omega))
  simp only [Bool.or_eq_true, beq_iff_eq] at z
  rcases z with z | z
  · omega
  · exact Nat.dvd_of_mod_eq_zero z
theorem FxOk.sz {f : Fx} (h : FxOk f) : Szf 1000 lcmA f := by
  have h3 := h.2.2.2
  have h1 := h.1
  refine ⟨h.1, lcm_dvd (by omega) (by omega), ?_⟩
  have := h.2.2.1
  have : 1000 * 1 ≤ 1000 * f.2.natAbs := Nat.mul_le_mul_left _ (by omega)
  omega
theorem FxOk.low {f : Fx} (h : FxOk f) : LowF f := ⟨h.1, h.2.1⟩
theorem one_le_lcm : 0 < lcmA := by decide
/-- a box, a wood, a reader asked about -/
def AskedAt (H : Hp) (x : V) : Prop := ∃ (a p : Addr) (w : Wd) (r : Rd) (wv rv : V), x = .ref a ∧ H a = some (.tup [.ref p, wv, rv]) ∧ Box H p ∧ Rep H (woodD w) wv ∧ WoodOk w ∧ Rep H (rdD r) rv ∧ RdOk w r
theorem AskedAt.ex {H H' : Hp} {x : V} (h : AskedAt H x) (e : Ex H H') : AskedAt H' x := by
  obtain ⟨a, p, w, r, wv, rv, h1, h2, h3, h4, h5, h6, h7⟩ := h
  exact ⟨a, p, w, r, wv, rv, h1, e _ _ h2, h3.ex e, h4.ex e, h5, h6.ex e, h7⟩
theorem AskedAt.kp {H H' : Hp} {x : V} {q : Addr} (h : AskedAt H x) (k : Kp q H H') : AskedAt H' x := by
  obtain ⟨a, p, w, r, wv, rv, h1, h2, h3, h4, h5, h6, h7⟩ := h
  refine ⟨a, p, w, r, wv, rv, h1, k.2.2 _ _ h2, ?_, h4.tk k.2.2 (wood_hard w), h5, h6.tk k.2.2 (rd_hard r), h7⟩
  by_cases c : p = q
  · subst c
    exact k.2.1
  · exact h3.but k.1 c
theorem Box.neL {H : Hp} {p a : Addr} {xs : List V} (b : Box H p) (h : H a = some (.lst xs)) (hx : ∀ x ∈ xs, ∀ n : Int, x ≠ .int n) : a ≠ p := fun z => by
  obtain ⟨u, v, w, hp⟩ := b
  rw [z, hp] at h
  cases h
  exact hx _ List.mem_cons_self u rfl
end Bk
set_option Elab.async false
set_option linter.all false
set_option maxRecDepth 100000
set_option maxHeartbeats 4000000
/-! Bk34: trees read by readers. -/
namespace Bk
open PySem PySem.Spec PyProof.Rows L2
/-! ### a tree's rows, one after the other -/
def ruleOf (w : Wd) (r : Rd) (s : Str) : Rl := match ((tabFrom 0 w).zip r.2).find? (fun x => decide (x.1.2.1 = s)) with
  | some x => x.2
  | none => []
def partsF (acc : List (List Fx)) (ns : List Int) : List (List Fx) := ns.map fun n => acc.getD n.toNat []
def rowF (w : Wd) (r : Rd) (acc : List (List Fx)) (row : Str × List Int) : List Fx := madeF (partsF acc row.2) (ruleOf w r row.1)
def readF (w : Wd) (r : Rd) (t : Tr) : List (List Fx) := t.foldl (fun acc row => acc ++ [rowF w r acc row]) []
structure RowFit (w : Wd) (r : Rd) (acc : List (List Fx)) (row : Str × List Int) : Prop where
  made : ∃ (j : Nat) (e : Nat × Mk), (tabFrom 0 w)[j]? = some e ∧ e.2.1 = row.1 ∧ r.2[j]? = some (ruleOf w r row.1)
  idx : ∀ n ∈ row.2, 0 ≤ n ∧ n < (acc.length : Nat)
  two : row.2.length ≤ 2
  rule : (ruleOf w r row.1).length ≤ 10
  fits : ∃ A N, FitP A N (partsF acc row.2) ∧ ∀ s ∈ ruleOf w r row.1, FitS A N (partsF acc row.2) s
def TreeFit (w : Wd) (r : Rd) (t : Tr) : Prop := ∀ (i : Nat) (row : Str × List Int), t[i]? = some row → RowFit w r (readF w r (t.take i)) row
/-! ### how great the rows' trees are -/
structure SzsOk (size : Int) (t : Tr) (szs : List Int) : Prop where
  le : ∀ s ∈ szs, 1 ≤ s ∧ s ≤ size
  row : ∀ (j : Nat) (r : Str × List Int), t[j]? = some r → szs[j]? = some (1 + (r.2.map fun n => szs.getD n.toNat 0).sum) ∧ ∀ n ∈ r.2, 0 ≤ n ∧ n < (j : Int)
theorem SzsOk.nil {size : Int} : SzsOk size [] [] := ⟨fun s h => (nomatch h), fun j r h => by simp at h⟩
theorem sum_nonneg : ∀ {l : List Int}, (∀ x ∈ l, 0 ≤ x) → 0 ≤ l.sum
  | [], _ => Int.le_refl _
  | x :: l, h => by
    have a := h x List.mem_cons_self
    have b := sum_nonneg (l := l) fun y hy => h y (List.mem_cons_of_mem _ hy)
    rw [List.sum_cons]
    omega
end Bk
set_option Elab.async false
set_option linter.all false
set_option maxRecDepth 100000
set_option maxHeartbeats 4000000
/-! Bk35: how great the fractions in a tree's boxes become. -/
namespace Bk
open PySem PySem.Spec PyProof.Rows L2
structure PartsAt (w : Wd) (r : Rd) (t : Tr) (i : Nat) (row : Str × List Int) (j : Nat) (e : Nat × Mk) : Prop where
  tab : (tabFrom 0 w)[j]? = some e
  nm : e.2.1 = row.1
  len : row.2.length = (dueOf w e).length
  two : row.2.length ≤ 2
  idx : ∀ (u : Nat) (n : Int), row.2[u]? = some n → 0 ≤ n ∧ n < (i : Int) ∧ ∃ q, t[n.toNat]? = some q ∧ (dueOf w e)[u]? = some (kindAt w q.1)
  kind : kindAt w row.1 = (e.1 : Nat)
/-! ### small whole numbers, one box in a term -/
end Bk
set_option Elab.async false
set_option linter.all false
set_option maxRecDepth 100000
set_option maxHeartbeats 4000000
/-! Bk36: thin readers; what k15 asks about. -/
namespace Bk
open PySem PySem.Spec PyProof.Rows L2
def AskedT (H : Hp) (x : V) : Prop := ∃ (a : Addr) (w : Wd) (r : Rd) (t : Tr) (wv rv tv : V), x = .ref a ∧ H a = some (.tup [wv, rv, tv]) ∧ Rep H (woodD w) wv ∧ WoodOk w ∧ Rep H (rdD r) rv ∧ RdOk w r ∧ Rep H (treeD t) tv ∧ t.length ≤ 60 ∧ t ≠ [] ∧ TreeFit w r t
theorem AskedT.tk {H H' : Hp} {x : V} (h : AskedT H x) (e : Tk H H') : AskedT H' x := by
  obtain ⟨a, w, r, t, wv, rv, tv, h1, h2, h3, h4, h5, h6, h7, h8⟩ := h
  exact ⟨a, w, r, t, wv, rv, tv, h1, e _ _ h2, h3.tk e (wood_hard w), h4, h5.tk e (rd_hard r), h6, h7.tk e (tree_hard t), h8⟩
end Bk
set_option Elab.async false
set_option linter.all false
set_option maxRecDepth 100000
set_option maxHeartbeats 4000000
/-! Bk37: names drawn, alike but at one place (the later laws' names). -/
namespace Bk
open PySem PySem.Spec PyProof.Rows L2
end Bk
set_option Elab.async false
set_option linter.all false
set_option maxRecDepth 100000
set_option maxHeartbeats 4000000
/-! Bk38: dicts whose keys are (text, (whole numbers)). -/
namespace Bk
open PySem PySem.Spec PyProof.Rows L2
/-- a mark: a name and whole numbers -/
abbrev Mark := Str × List Int
def nk (m : Mark) : NestedKey := .tup [.text m.1, .tup (m.2.map NestedKey.num)]
theorem nums_inj : ∀ {a b : List Int}, a.map NestedKey.num = b.map NestedKey.num → a = b
  | [], [], _ => rfl
  | [], _ :: _, h => nomatch h
  | _ :: _, [], h => nomatch h
  | x :: a, y :: b, h => by
    rw [List.map_cons, List.map_cons] at h
    injection h with h1 h2
    injection h1 with h1
    rw [h1, nums_inj h2]
theorem nk_inj {a b : Mark} (h : nk a = nk b) : a = b := by
  unfold nk at h
  injection h with h
  injection h with h1 h2
  injection h1 with h1
  injection h2 with h2 _
  injection h2 with h2
  exact Prod.ext h1 (nums_inj h2)
/-- the mark m stands at a -/
def MarkAt (H : Hp) (a : Addr) (m : Mark) : Prop := ∃ t, H a = some (.tup [.str m.1, .ref t]) ∧ H t = some (.tup (m.2.map V.int))
theorem MarkAt.tk {H H' : Hp} {a : Addr} {m : Mark} (t : Tk H H') (h : MarkAt H a m) : MarkAt H' a m := by
  obtain ⟨q, a1, a2⟩ := h
  exact ⟨q, t _ _ a1, t _ _ a2⟩
/-- the entries: mark, its address, what is held -/
abbrev Nx : List (Mark × Addr × V) → List (NestedKey × Addr × Value) → Prop := Paired fun p q => q.1 = nk p.1 ∧ q.2.1 = p.2.1 ∧ RelV p.2.2 q.2.2
def kvm (ps : List (Mark × Addr × V)) : List (Mark × V) := ps.map fun p => (p.1, p.2.2)
def NdO (P : Program) (w : World) (a : Addr) (ps : List (Mark × Addr × V)) : HO := .ext fun h => ps.length ≤ sizeLine ∧ (a == sysModules) = false ∧ ∃ xs, Nx ps xs ∧
  ∃ o es ep, h.get? a = some o ∧ o.ExactDict ∧ o.data = .dict es ep ∧ es.toList = xs.map (entryOfKey (nestedKind P w)) ∧ (xs.map (·.1)).Nodup
/-- the dict at a has these entries -/
def NdAt (P : Program) (w : World) (H : Hp) (a : Addr) (ps : List (Mark × Addr × V)) : Prop := (H a = some (NdO P w a ps) ∨ (ps = [] ∧ H a = some (.dK []))) ∧ ∀ p ∈ ps, MarkAt H p.2.1 p.1
section
variable {P : Program} {w : World} {H : Hp} {h : Heap} {a : Addr} {ps : List (Mark × Addr × V)}
theorem NdAt.notTup (g : NdAt P w H a ps) : ∀ b ys, H b = some (.tup ys) → b ≠ a := fun b ys e z => by
  subst z
  rcases g.1 with q | ⟨_, q⟩
  · rw [e] at q
    cases q
  · rw [e] at q
    cases q
theorem NdAt.at_some (g : NdAt P w H a ps) : H a = some ((H a).getD (.dK [])) := by
  rcases g.1 with e | ⟨_, e⟩ <;> rw [e] <;> rfl
theorem NdAt.ex {H' : Hp} (g : NdAt P w H a ps) (e : Ex H H') : H' a = H a := by
  rw [g.at_some]
  exact e _ _ g.at_some
theorem Nx.val {xs : List (NestedKey × Addr × Value)} (r : Nx ps xs) (m : Mark) : RelO (valV (kvm ps) m) ((atKey xs (nk m)).map (·.2)) := by
  induction r with
  | nil => exact True.intro
  | @cons p q ps qs h t ih =>
    obtain ⟨h1, _, h2⟩ := h
    by_cases e : p.1 = m
    · have e' : q.1 = nk m := by rw [h1, e]
      have b : atKey (q :: qs) (nk m) = some q.2 := by simp [atKey, List.find?_cons, e']
      rw [b]
      show RelO (valV ((p.1, p.2.2) :: kvm ps) m) _
      rw [valV_pos (p := (p.1, p.2.2)) e]
      exact h2
    · have e' : ¬ q.1 = nk m := fun z => e (nk_inj (h1.symm.trans z))
      have b : atKey (q :: qs) (nk m) = atKey qs (nk m) := by simp [atKey, List.find?_cons, e']
      rw [b]
      show RelO (valV ((p.1, p.2.2) :: kvm ps) m) _
      rw [valV_neg (p := (p.1, p.2.2)) e]
      exact ih
theorem Nx.len {xs : List (NestedKey × Addr × Value)} (r : Nx ps xs) : ps.length = xs.length := Paired.length r
theorem Nx.new {xs : List (NestedKey × Addr × Value)} (r : Nx ps xs) {m : Mark} (hv : valV (kvm ps) m = none) : atKey xs (nk m) = none := by
  have := r.val m
  rw [hv] at this
  cases c : atKey xs (nk m) with
  | none => rfl
  | some p =>
    rw [c] at this
    exact (this : False).elim
theorem NdAt.keep {H' : Hp} (g : NdAt P w H a ps) (ha : H' a = H a) (t : Tk H H') : NdAt P w H' a ps := ⟨by rw [ha]; exact g.1, fun p hp => (g.2 p hp).tk t⟩
/-- an entry put behind -/
theorem NdAt.snoc (g : NdAt P w H a ps) {m : Mark} {b : Addr} (hb : MarkAt H b m) (v : V) : NdAt P w (upd H a (NdO P w a (ps ++ [(m, b, v)]))) a (ps ++ [(m, b, v)]) := by
  have t : Tk H (upd H a (NdO P w a (ps ++ [(m, b, v)]))) := fun c ys e => by
    rw [upd_ne (g.notTup c ys e)]
    exact e
  refine ⟨.inl upd_same, fun p hp => ?_⟩
  rcases List.mem_append.1 hp with hp | hp
  · exact (g.2 p hp).tk t
  · rw [List.mem_singleton.1 hp]
    exact hb.tk t
end
end Bk
set_option Elab.async false
set_option linter.all false
set_option maxRecDepth 100000
set_option maxHeartbeats 4000000
/-! Bk39: printers as data, drawn. -/
namespace Bk
open PySem PySem.Spec PyProof.Rows L2
/-! ### list(text) -/
/-! ### printers -/
abbrev Itm := Str ⊕ (Int × Int)
def bdD (b : Int × Int) : D := .tup [.int b.1, .int b.2]
def itD : Itm → D
  | .inl s => .str s
  | .inr b => bdD b
theorem it_hard (i : Itm) : (itD i).hard = true := by cases i <;> rfl
/-! ### lists that are filled row by row -/
structure RowsI (H : Hp) (ras : List Addr) (R : List (List Itm)) : Prop where
  len : ras.length = R.length
  nd : ras.Nodup
  at_ : ∀ (q : Nat) (a : Addr) (r : List Itm), ras[q]? = some a → R[q]? = some r → ∃ us, H a = some (.lst us) ∧ Reps H (r.map itD) us
theorem RowsI.get {H : Hp} {ras : List Addr} {R : List (List Itm)} (h : RowsI H ras R) {q : Nat} (hq : q < R.length) : ∃ a r us, ras[q]? = some a ∧ R[q]? = some r ∧ H a = some (.lst us) ∧ Reps H (r.map itD) us := by
  have hq2 : q < ras.length := by rw [h.len]; exact hq
  obtain ⟨us, a, b⟩ := h.at_ q _ _ (List.getElem?_eq_getElem hq2) (List.getElem?_eq_getElem hq)
  exact ⟨_, _, us, List.getElem?_eq_getElem hq2, List.getElem?_eq_getElem hq, a, b⟩
theorem RowsI.keep {H H' : Hp} {ras : List Addr} {R : List (List Itm)} (h : RowsI H ras R) (t : Tk H H') (k : ∀ a ∈ ras, ∀ us, H a = some (.lst us) → H' a = some (.lst us)) : RowsI H' ras R := ⟨h.len, h.nd, fun q a r ha hr => by
  obtain ⟨us, hu, rs⟩ := h.at_ q a r ha hr
  exact ⟨us, k a (List.mem_of_getElem? ha) us hu, rs.tkm t it_hard⟩⟩
theorem Reps.erase {H : Hp} : ∀ {ds : List D} {vs : List V} {i : Nat}, Reps H ds vs → Reps H (ds.eraseIdx i) (vs.eraseIdx i)
  | [], vs, i, h => by
    simp only [Reps] at h
    subst h
    simp only [List.eraseIdx_nil, Reps]
  | d :: ds, vs, i, h => by
    obtain ⟨v, r, rfl, hv, hr⟩ := h
    cases i with
    | zero => exact hr
    | succ i => exact ⟨v, r.eraseIdx i, rfl, hv, Reps.erase hr⟩
end Bk
set_option Elab.async false
set_option linter.all false
set_option maxRecDepth 100000
set_option maxHeartbeats 4000000
/-! Bk40: the later laws' trees: drawn, their sizes. -/
namespace Bk
open PySem PySem.Spec PyProof.Rows L2
structure TreeS (p R Kd : Addr) (w : Wd) (H H1 : Hp) (t : Tr) (rvs : List V) : Prop where
  bx0 : Box H p
  bt : But p H H1
  bx : Box H1 p
  hR : H R = none
  hK : H Kd = none
  RK : R ≠ Kd
  atR : H1 R = some (.lst rvs)
  atK : H1 Kd = some (.lst ((kindsT w t).map V.int))
  reps : Reps H1 (t.map rowD) rvs
  go : goTr w [] t = true
  row : ∀ r ∈ t, TextOk r.1 ∧ r.2.length ≤ 2
section
variable {p R Kd : Addr} {w : Wd} {H H1 H2 : Hp} {t : Tr} {rvs : List V}
theorem TreeS.np (s : TreeS p R Kd w H H1 t rvs) {a : Addr} (ha : H a = none) : a ≠ p := s.bx0.ne ha
theorem TreeS.free (s : TreeS p R Kd w H H1 t rvs) {a : Addr} (ha : H1 a = none) : H a = none := by
  cases e : H a with
  | none => rfl
  | some o =>
    by_cases z : a = p
    · subst z
      obtain ⟨_, _, _, q⟩ := s.bx
      rw [ha] at q
      cases q
    · rw [s.bt _ _ z e] at ha
      cases ha
theorem TreeS.but (s : TreeS p R Kd w H H1 t rvs) (b : But p H1 H2) (hb : Box H2 p) : TreeS p R Kd w H H2 t rvs :=
  { s with bt := s.bt.trans b, bx := hb, atR := b _ _ (s.np s.hR) s.atR, atK := b _ _ (s.np s.hK) s.atK, reps := s.reps.tk (s.bx.tk b) (rows_hard t) }
theorem TreeS.ex (s : TreeS p R Kd w H H1 t rvs) (e : Ex H1 H2) : TreeS p R Kd w H H2 t rvs := s.but (e.but p) (s.bx.ex e)
theorem TreeS.len (s : TreeS p R Kd w H H1 t rvs) : rvs.length = t.length := by rw [s.reps.len, List.length_map]
end
end Bk
set_option Elab.async false
set_option linter.all false
set_option maxRecDepth 100000
set_option maxHeartbeats 4000000
/-! Bk41: values of a tree's rows; the plain tree, step by step. -/
namespace Bk
open PySem PySem.Spec PyProof.Rows L2
/-! ### values of the rows -/
section
variable {β : Type}
def foldV (d : β) (f : Str → List β → β) (t : Tr) : List β := t.foldl (fun acc row => acc ++ [f row.1 (row.2.map fun n => acc.getD n.toNat d)]) []
theorem fold_len {γ : Type} (g : List β → γ → β) : ∀ (l : List γ) (acc : List β), (l.foldl (fun acc row => acc ++ [g acc row]) acc).length = acc.length + l.length
  | [], acc => rfl
  | r :: l, acc => by
    show (l.foldl _ (acc ++ [g acc r])).length = _
    rw [fold_len g l, List.length_append, List.length_cons, List.length_cons, List.length_nil]
    omega
theorem fold_pre {γ : Type} (g : List β → γ → β) : ∀ (l : List γ) (acc : List β), (l.foldl (fun acc row => acc ++ [g acc row]) acc).take acc.length = acc
  | [], acc => List.take_length
  | r :: l, acc => by
    show (l.foldl _ (acc ++ [g acc r])).take acc.length = acc
    have ih := congrArg (List.take acc.length) (fold_pre g l (acc ++ [g acc r]))
    rw [List.take_take, List.length_append, Nat.min_eq_left (Nat.le_add_right _ _)] at ih
    rw [ih, List.take_append_of_le_length (Nat.le_refl _), List.take_length]
variable {d : β} {f : Str → List β → β} {t : Tr}
theorem foldV_snoc {r : Str × List Int} : foldV d f (t ++ [r]) = foldV d f t ++ [f r.1 (r.2.map fun n => (foldV d f t).getD n.toNat d)] := by
  unfold foldV
  rw [List.foldl_append]
  rfl
theorem foldV_len : (foldV d f t).length = t.length := by
  exact (fold_len (fun (acc : List β) (row : Str × List Int) => f row.1 (row.2.map fun n => acc.getD n.toNat d)) t []).trans (by rw [List.length_nil, Nat.zero_add])
theorem foldV_pre (i : Nat) (h : i ≤ t.length) : (foldV d f t).take i = foldV d f (t.take i) := by
  have e : foldV d f t = (t.drop i).foldl (fun acc row => acc ++ [f row.1 (row.2.map fun n => acc.getD n.toNat d)]) (foldV d f (t.take i)) := by
    show t.foldl _ [] = _
    have z := congrArg (List.foldl (fun acc row => acc ++ [f row.1 (row.2.map fun n => acc.getD n.toNat d)]) []) (List.take_append_drop i t).symm
    rw [List.foldl_append] at z
    exact z
  have l : (foldV d f (t.take i)).length = i := by rw [foldV_len, List.length_take]; omega
  have p := fold_pre (fun (acc : List β) (row : Str × List Int) => f row.1 (row.2.map fun n => acc.getD n.toNat d)) (t.drop i) (foldV d f (t.take i))
  rw [l, ← e] at p
  exact p
/-- each row's numbers are of rows ahead of it -/
def TrIdx (t : Tr) : Prop := ∀ (i : Nat) (r : Str × List Int), t[i]? = some r → r.2.length ≤ 2 ∧ ∀ n ∈ r.2, 0 ≤ n ∧ n < (i : Int)
theorem foldV_at (ok : TrIdx t) {i : Nat} {r : Str × List Int} (h : t[i]? = some r) : (foldV d f t)[i]? = some (f r.1 (r.2.map fun n => (foldV d f t).getD n.toNat d)) := by
  have li := (List.getElem?_eq_some_iff.1 h).1
  have p := foldV_pre (d := d) (f := f) (i + 1) (Nat.succ_le_of_lt li)
  rw [take_at h, foldV_snoc] at p
  have l : (foldV d f (t.take i)).length = i := by rw [foldV_len, List.length_take]; omega
  have q : (foldV d f t)[i]? = ((foldV d f t).take (i + 1))[i]? := by rw [List.getElem?_take, if_pos (Nat.lt_succ_self i)]
  rw [q, p, List.getElem?_append_right (by omega), l, Nat.sub_self]
  show some _ = some _
  congr 2
  refine List.map_congr_left fun n hn => ?_
  have := (ok i r h).2 n hn
  rw [List.getD_eq_getElem?_getD, List.getD_eq_getElem?_getD, ← foldV_pre i (Nat.le_of_lt li), List.getElem?_take, if_pos (by omega)]
theorem foldV_app (ok : TrIdx t) (r : Str × List Int) {i : Nat} (h : i < t.length) : (foldV d f (t ++ [r]))[i]? = (foldV d f t)[i]? := by
  rw [foldV_snoc, List.getElem?_append_left (by rw [foldV_len]; exact h)]
end
theorem TrIdx.take {t : Tr} (ok : TrIdx t) (i : Nat) : TrIdx (t.take i) := fun j r h => by
  rw [List.getElem?_take] at h
  split at h
  · exact ok j r h
  · cases h
theorem TrIdx.snoc {t : Tr} (ok : TrIdx t) {r : Str × List Int} (h2 : r.2.length ≤ 2) (h : ∀ n ∈ r.2, 0 ≤ n ∧ n < (t.length : Int)) : TrIdx (t ++ [r]) := fun j q hq => by
  by_cases c : j < t.length
  · rw [List.getElem?_append_left c] at hq
    exact ok j q hq
  · rw [List.getElem?_append_right (by omega)] at hq
    have ej : j = t.length := by
      have := (List.getElem?_eq_some_iff.1 hq).1
      rw [List.length_singleton] at this
      omega
    subst ej
    rw [Nat.sub_self] at hq
    cases hq
    exact ⟨h2, h⟩
/-! ### sizes -/
def szf : Str → List Int → Int := fun _ ps => 1 + ps.sum
def szT (t : Tr) (a : Nat) : Int := (foldV 0 szf t).getD a 0
theorem szT_at {t : Tr} (ok : TrIdx t) {a : Nat} {r : Str × List Int} (h : t[a]? = some r) : szT t a = 1 + (r.2.map fun n => szT t n.toNat).sum := by
  unfold szT
  rw [List.getD_eq_getElem?_getD, foldV_at ok h]
  rfl
theorem sz_pos {t : Tr} (ok : TrIdx t) : ∀ (k a : Nat), a < k → a < t.length → 1 ≤ szT t a
  | 0, a, h, _ => absurd h (Nat.not_lt_zero _)
  | k + 1, a, h, hl => by
    have e := List.getElem?_eq_getElem hl
    rw [szT_at ok e]
    have := sum_nonneg (l := t[a].2.map fun n => szT t n.toNat) fun x hx => by
      obtain ⟨n, hn, rfl⟩ := List.mem_map.1 hx
      have z := (ok a _ e).2 n hn
      have := sz_pos ok k n.toNat (by omega) (by omega)
      omega
    omega
theorem sz_pos' {t : Tr} (ok : TrIdx t) {a : Nat} (h : a < t.length) : 1 ≤ szT t a := sz_pos ok (a + 1) a (Nat.lt_succ_self a) h
theorem mem_le_sumI : ∀ {l : List Int} {x : Int}, (∀ y ∈ l, 0 ≤ y) → x ∈ l → x ≤ l.sum
  | [], x, _, h => nomatch h
  | a :: l, x, hl, h => by
    rw [List.sum_cons]
    have a0 := hl a List.mem_cons_self
    have s0 := sum_nonneg (l := l) fun y hy => hl y (List.mem_cons_of_mem _ hy)
    rcases List.mem_cons.1 h with rfl | h
    · omega
    · have := mem_le_sumI (l := l) (fun y hy => hl y (List.mem_cons_of_mem _ hy)) h
      omega
theorem sz_part {t : Tr} (ok : TrIdx t) {a : Nat} {r : Str × List Int} (h : t[a]? = some r) {n : Int} (hn : n ∈ r.2) : szT t n.toNat < szT t a := by
  rw [szT_at ok h]
  have la := (List.getElem?_eq_some_iff.1 h).1
  have := mem_le_sumI (l := r.2.map fun n => szT t n.toNat) (x := szT t n.toNat) (fun y hy => by
    obtain ⟨m, hm, rfl⟩ := List.mem_map.1 hy
    have z := (ok a _ h).2 m hm
    have := sz_pos' ok (a := m.toNat) (by omega)
    omega) (List.mem_map.2 ⟨n, hn, rfl⟩)
  omega
/-! ### the plain tree -/
structure PlSt where
  left : List (Nat × Bool)
  rows : Tr
  own : List (Nat × Nat)
def ownAt (own : List (Nat × Nat)) (n : Nat) : Option Nat := (own.find? fun p => decide (p.1 = n)).map (·.2)
def rowAt (t : Tr) (a : Nat) : Str × List Int := t.getD a ("", [])
def markOf (t : Tr) (own : List (Nat × Nat)) (a : Nat) : Mark := ((rowAt t a).1, (rowAt t a).2.map fun n => (((ownAt own n.toNat).getD 0 : Nat) : Int))
def markIx (rows : Tr) (m : Mark) : Option Nat := rows.findIdx? fun r => decide (r = m)
def stepP (t : Tr) : PlSt → PlSt
  | ⟨[], rows, own⟩ => ⟨[], rows, own⟩
  | ⟨(a, b) :: left, rows, own⟩ =>
    if (ownAt own a).isSome = true then ⟨left, rows, own⟩
    else if b = true then
      match markIx rows (markOf t own a) with
      | some k => ⟨left, rows, own ++ [(a, k)]⟩
      | none => ⟨left, rows ++ [markOf t own a], own ++ [(a, rows.length)]⟩
    else ⟨(rowAt t a).2.map (fun n => (n.toNat, false)) ++ (a, true) :: left, rows, own⟩
def startP (t : Tr) : PlSt := ⟨[(t.length - 1, false)], [], []⟩
def runP (t : Tr) : Nat → PlSt
  | 0 => startP t
  | k + 1 => stepP t (runP t k)
theorem ownAt_mem {own : List (Nat × Nat)} {n k : Nat} (h : ownAt own n = some k) : (n, k) ∈ own := by
  unfold ownAt at h
  cases c : own.find? fun p => decide (p.1 = n) with
  | none => rw [c] at h; cases h
  | some p =>
    rw [c] at h
    cases h
    have := List.find?_some c
    have e : p.1 = n := of_decide_eq_true this
    rw [← e]
    exact List.mem_of_find?_eq_some c
theorem ownAt_app {own : List (Nat × Nat)} {a k n : Nat} : ownAt (own ++ [(a, k)]) n = (ownAt own n).or (if a = n then some k else none) := by
  unfold ownAt
  rw [List.find?_append]
  cases own.find? fun p => decide (p.1 = n) with
  | some p => rfl
  | none =>
    by_cases c : a = n
    · simp [List.find?_cons, c]
    · simp [List.find?_cons, c]
theorem ownAt_none {own : List (Nat × Nat)} {n : Nat} (h : ownAt own n = none) : n ∉ own.map (·.1) := fun hm => by
  obtain ⟨p, hp, rfl⟩ := List.mem_map.1 hm
  unfold ownAt at h
  rw [Option.map_eq_none_iff, List.find?_eq_none] at h
  exact h p hp (decide_eq_true rfl)
theorem rowAt_eq {t : Tr} {a : Nat} {r : Str × List Int} (h : t[a]? = some r) : rowAt t a = r := by
  unfold rowAt
  rw [List.getD_eq_getElem?_getD, h]
  rfl
theorem markIx_some {rows : Tr} {m : Mark} {k : Nat} (h : markIx rows m = some k) : rows[k]? = some m := by
  unfold markIx at h
  obtain ⟨h1, h2, _⟩ := List.findIdx?_eq_some_iff_getElem.1 h
  rw [List.getElem?_eq_getElem h1, of_decide_eq_true h2]
theorem markIx_none {rows : Tr} {m : Mark} (h : markIx rows m = none) : m ∉ rows := fun hm => by
  unfold markIx at h
  rw [List.findIdx?_eq_none_iff] at h
  have := h m hm
  simp at this
structure PInv (t : Tr) (s : PlSt) : Prop where
  stk : ∀ p ∈ s.left, p.1 < t.length
  ord : s.left.Pairwise fun p q => q.2 = true → p.1 < q.1
  part : ∀ (above below : List (Nat × Bool)) (a : Nat), s.left = above ++ (a, true) :: below → ∀ n ∈ (rowAt t a).2, (ownAt s.own n.toNat).isSome = true ∨ ∃ b, (n.toNat, b) ∈ above
  ownl : ∀ p ∈ s.own, p.1 < t.length ∧ p.2 < s.rows.length
  ownd : (s.own.map (·.1)).Nodup
  few : s.rows.length ≤ s.own.length
  nd : s.rows.Nodup
  idx : TrIdx s.rows
  name : ∀ p ∈ s.own, (rowAt s.rows p.2).1 = (rowAt t p.1).1
  same : ∀ p ∈ s.own, ∀ (β : Type) (d : β) (f : Str → List β → β), (foldV d f s.rows)[p.2]? = (foldV d f t)[p.1]?
  rowl : ∀ (k : Nat) (r : Str × List Int), s.rows[k]? = some r → ∃ a, a < t.length ∧ r.1 = (rowAt t a).1 ∧ r.2.length = (rowAt t a).2.length ∧ ∀ (j : Nat) (n m : Int), r.2[j]? = some n → (rowAt t a).2[j]? = some m → 0 ≤ m ∧ m.toNat < a ∧ 0 ≤ n ∧ n.toNat < k ∧ (rowAt s.rows n.toNat).1 = (rowAt t m.toNat).1
  base : (∃ pre b, s.left = pre ++ [(t.length - 1, b)] ∧ (∀ p ∈ pre, szT t p.1 < szT t (t.length - 1)) ∧ (∀ k, k < s.rows.length → szT s.rows k < szT t (t.length - 1)) ∧ ownAt s.own (t.length - 1) = none) ∨ (s.left = [] ∧ ∃ k, ownAt s.own (t.length - 1) = some k ∧ k + 1 = s.rows.length)
def cntP (t : Tr) (left : List (Nat × Bool)) (own : List (Nat × Nat)) : Nat := (List.range t.length).countP fun a => (ownAt own a).isNone && !decide ((a, true) ∈ left)
def measP (t : Tr) (s : PlSt) : Nat := s.left.length + 4 * cntP t s.left s.own
theorem PInv.start {t : Tr} (h : 0 < t.length) : PInv t (startP t) := by
  refine ⟨fun p hp => ?_, List.pairwise_singleton _ _, fun above below a e => ?_, fun p z => (nomatch z), List.nodup_nil, Nat.le_refl _, List.nodup_nil, fun i r z => by simp [startP] at z, fun p z => (nomatch z), fun p z => (nomatch z), fun k r z => by simp [startP] at z, .inl ⟨[], false, rfl, fun p z => (nomatch z), fun k z => absurd z (Nat.not_lt_zero _), rfl⟩⟩
  · rw [List.mem_singleton.1 hp]
    show t.length - 1 < t.length
    omega
  · exfalso
    have : (a, true) ∈ (startP t).left := by rw [e]; exact List.mem_append_right _ List.mem_cons_self
    have z := List.mem_singleton.1 this
    cases z
theorem countP_lt {α : Type} {p q : α → Bool} : ∀ {l : List α} {a : α}, (∀ x, q x = true → p x = true) → a ∈ l → p a = true → q a = false → l.countP q < l.countP p
  | [], a, _, h, _, _ => nomatch h
  | x :: l, a, hx, h, h1, h2 => by
    rw [List.countP_cons, List.countP_cons]
    have le : l.countP q ≤ l.countP p := List.countP_mono_left fun y _ => hx y
    rcases List.mem_cons.1 h with rfl | h
    · rw [if_pos h1, if_neg (by rw [h2]; exact Bool.false_ne_true)]
      omega
    · have := countP_lt (l := l) hx h h1 h2
      by_cases c : q x = true
      · rw [if_pos c, if_pos (hx x c)]
        omega
      · rw [if_neg c]
        omega
theorem getD_snoc {α : Type} {l : List α} {x d : α} {k : Nat} (h : k < l.length) : (l ++ [x]).getD k d = l.getD k d := by
  rw [List.getD_eq_getElem?_getD, List.getD_eq_getElem?_getD, List.getElem?_append_left h]
theorem getD_last {α : Type} {l : List α} {x d : α} : (l ++ [x]).getD l.length d = x := by
  rw [List.getD_eq_getElem?_getD, List.getElem?_append_right (Nat.le_refl _), Nat.sub_self]
  rfl
theorem cons_app {α : Type} {x y : α} {l pre : List α} (h : x :: l = pre ++ [y]) : (pre = [] ∧ x = y ∧ l = []) ∨ ∃ pre', pre = x :: pre' ∧ l = pre' ++ [y] := by
  cases pre with
  | nil =>
    rw [List.nil_append] at h
    injection h with h1 h2
    exact .inl ⟨rfl, h1, h2⟩
  | cons z pre =>
    rw [List.cons_append] at h
    injection h with h1 h2
    exact .inr ⟨pre, by rw [h1], h2⟩
theorem meas_le {t : Tr} {left left' : List (Nat × Bool)} {rows rows' : Tr} {own own' : List (Nat × Nat)} {c : Nat × Bool} (hl : left = c :: left') (h : ∀ x, ownAt own' x = none → (x, true) ∉ left' → ownAt own x = none ∧ (x, true) ∉ left) : measP t ⟨left', rows', own'⟩ < measP t ⟨left, rows, own⟩ := by
  have : cntP t left' own' ≤ cntP t left own := List.countP_mono_left fun x _ hx => by
    simp only [Bool.and_eq_true, Option.isNone_iff_eq_none, Bool.not_eq_true', decide_eq_false_iff_not] at hx ⊢
    exact h x hx.1 hx.2
  show left'.length + 4 * cntP t left' own' < left.length + 4 * cntP t left own
  have e : left.length = left'.length + 1 := by rw [hl, List.length_cons]
  omega
theorem PInv.step {t : Tr} (ok : TrIdx t) {s : PlSt} (h : PInv t s) (hl : s.left ≠ []) : PInv t (stepP t s) ∧ measP t (stepP t s) < measP t s := by
  obtain ⟨left0, rows, own⟩ := s
  cases left0 with
  | nil => exact absurd rfl hl
  | cons p left =>
  obtain ⟨a, b⟩ := p
  have la : a < t.length := h.stk (a, b) List.mem_cons_self
  have er0 := List.getElem?_eq_getElem la
  obtain ⟨r, er⟩ : ∃ r, t[a]? = some r := ⟨_, er0⟩
  clear er0
  have ra := rowAt_eq er
  have rix := ok a r er
  have hbase := h.base.resolve_right fun z => nomatch z.1
  obtain ⟨pre, b', ebase, hpre, hsz, hroot⟩ := hbase
  replace ebase : (a, b) :: left = pre ++ [(t.length - 1, b')] := ebase
  replace hroot : ownAt own (t.length - 1) = none := hroot
  have ordt := List.pairwise_cons.1 h.ord
  by_cases c1 : (ownAt own a).isSome = true
  · -- it is there
    have es : stepP t ⟨(a, b) :: left, rows, own⟩ = ⟨left, rows, own⟩ := by
      show (if (ownAt own a).isSome = true then _ else _) = _
      rw [if_pos c1]
    rw [es]
    refine ⟨⟨fun p hp => h.stk p (List.mem_cons_of_mem _ hp), ordt.2, fun above below x e n hn => ?_, h.ownl, h.ownd, h.few, h.nd, h.idx, h.name, h.same, h.rowl, ?_⟩, meas_le rfl fun x h1 h2 => ⟨h1, fun z => ?_⟩⟩
    · replace e : left = above ++ (x, true) :: below := e
      rcases h.part ((a, b) :: above) below x (by show (a, b) :: left = _; rw [e]; rfl) n hn with z | ⟨b2, z⟩
      · exact .inl z
      · rcases List.mem_cons.1 z with z | z
        · have : n.toNat = a := congrArg Prod.fst z
          exact .inl (by rw [this]; exact c1)
        · exact .inr ⟨b2, z⟩
    · rcases cons_app ebase with ⟨_, e, _⟩ | ⟨pre', rfl, e⟩
      · have : a = t.length - 1 := congrArg Prod.fst e
        rw [this, hroot] at c1
        cases c1
      · exact .inl ⟨pre', b', e, fun p hp => hpre p (List.mem_cons_of_mem _ hp), hsz, hroot⟩
    · rcases List.mem_cons.1 z with z | z
      · have : x = a := congrArg Prod.fst z
        rw [this] at h1
        rw [h1] at c1
        cases c1
      · exact h2 z
  have own0 : ownAt own a = none := by
    cases c : ownAt own a with
    | none => rfl
    | some k => rw [c] at c1; exact absurd rfl c1
  cases b with
  | false =>
    -- its parts first
    have es : stepP t ⟨(a, false) :: left, rows, own⟩ = ⟨r.2.map (fun n => (n.toNat, false)) ++ (a, true) :: left, rows, own⟩ := by
      show (if (ownAt own a).isSome = true then _ else if false = true then _ else _) = _
      rw [if_neg c1, if_neg Bool.false_ne_true, ra]
    rw [es]
    have pin : ∀ p ∈ r.2.map (fun n : Int => (n.toNat, false)), p.2 = false ∧ p.1 < a ∧ szT t p.1 < szT t a := fun p hp => by
      obtain ⟨n, hn, rfl⟩ := List.mem_map.1 hp
      have := rix.2 n hn
      exact ⟨rfl, show n.toNat < a by omega, sz_part ok er hn⟩
    refine ⟨⟨fun p hp => ?_, ?_, fun above below x e n hn => ?_, h.ownl, h.ownd, h.few, h.nd, h.idx, h.name, h.same, h.rowl, ?_⟩, ?_⟩
    · rcases List.mem_append.1 hp with hp | hp
      · have := (pin p hp).2.1
        omega
      · rcases List.mem_cons.1 hp with rfl | hp
        · exact la
        · exact h.stk p (List.mem_cons_of_mem _ hp)
    · refine List.pairwise_append.2 ⟨?_, List.pairwise_cons.2 ⟨fun q hq hq2 => ordt.1 q hq hq2, ordt.2⟩, fun p hp q hq hq2 => ?_⟩
      · refine List.Pairwise.imp_of_mem (R := fun _ _ => True) (fun {p q} _ hq _ hq2 => ?_) (List.pairwise_of_forall_mem_list fun _ _ _ _ => trivial)
        rw [(pin q hq).1] at hq2
        cases hq2
      · have := (pin p hp).2.1
        rcases List.mem_cons.1 hq with rfl | hq
        · exact this
        · have := ordt.1 q hq hq2
          replace this : a < q.1 := this
          omega
    · replace e : r.2.map (fun n => (n.toNat, false)) ++ (a, true) :: left = above ++ (x, true) :: below := e
      have first : ∀ c' : List (Nat × Bool), above = r.2.map (fun n => (n.toNat, false)) ++ c' → (a, true) :: left = c' ++ (x, true) :: below → (ownAt own n.toNat).isSome = true ∨ ∃ b, (n.toNat, b) ∈ above := by
        intro c' ea e2
        cases c' with
        | nil =>
          rw [List.nil_append] at e2
          injection e2 with e2 _
          have : a = x := congrArg Prod.fst e2
          subst this
          rw [ra] at hn
          exact .inr ⟨false, by rw [ea, List.append_nil]; exact List.mem_map.2 ⟨n, hn, rfl⟩⟩
        | cons q c' =>
          rw [List.cons_append] at e2
          injection e2 with e2 e3
          rcases h.part ((a, false) :: c') below x (by show (a, false) :: left = _; rw [e3]; rfl) n hn with z | ⟨b2, z⟩
          · exact .inl z
          · rcases List.mem_cons.1 z with z | z
            · have : n.toNat = a := congrArg Prod.fst z
              exact .inr ⟨true, by rw [ea, this, ← e2]; exact List.mem_append_right _ List.mem_cons_self⟩
            · exact .inr ⟨b2, by rw [ea]; exact List.mem_append_right _ (List.mem_cons_of_mem _ z)⟩
      rcases List.append_eq_append_iff.1 e with ⟨c', e1, e2⟩ | ⟨c', e1, e2⟩
      · exact first c' e1 e2
      · cases c' with
        | nil =>
          rw [List.append_nil] at e1
          rw [List.nil_append] at e2
          exact first [] (by rw [e1, List.append_nil]) (by rw [List.nil_append]; exact e2.symm)
        | cons q c' =>
          rw [List.cons_append] at e2
          injection e2 with e2 _
          have := (pin q (by rw [e1]; exact List.mem_append_right _ List.mem_cons_self)).1
          rw [← e2] at this
          cases this
    · rcases cons_app ebase with ⟨_, e, e2⟩ | ⟨pre', rfl, e⟩
      · have ea : a = t.length - 1 := congrArg Prod.fst e
        refine .inl ⟨r.2.map (fun n => (n.toNat, false)), true, ?_, fun p hp => ?_, hsz, hroot⟩
        · show _ ++ (a, true) :: left = _
          rw [e2, ea]
        · rw [← ea]
          exact (pin p hp).2.2
      · have sa := hpre (a, false) List.mem_cons_self
        refine .inl ⟨r.2.map (fun n => (n.toNat, false)) ++ (a, true) :: pre', b', ?_, fun p hp => ?_, hsz, hroot⟩
        · show _ ++ (a, true) :: left = _
          rw [e, List.append_assoc]
          rfl
        · rcases List.mem_append.1 hp with hp | hp
          · exact Int.lt_trans (pin p hp).2.2 sa
          · rcases List.mem_cons.1 hp with rfl | hp
            · exact sa
            · exact hpre p (List.mem_cons_of_mem _ hp)
    · have lp : (r.2.map (fun n : Int => (n.toNat, false))).length ≤ 2 := by rw [List.length_map]; exact rix.1
      have : cntP t (r.2.map (fun n : Int => (n.toNat, false)) ++ (a, true) :: left) own < cntP t ((a, false) :: left) own := countP_lt (l := List.range t.length) (a := a) (p := fun x => (ownAt own x).isNone && !decide ((x, true) ∈ (a, false) :: left)) (q := fun x => (ownAt own x).isNone && !decide ((x, true) ∈ r.2.map (fun n : Int => (n.toNat, false)) ++ (a, true) :: left)) (fun x hx => by
        simp only [Bool.and_eq_true, Option.isNone_iff_eq_none, Bool.not_eq_true', decide_eq_false_iff_not] at hx ⊢
        refine ⟨hx.1, fun z => hx.2 (List.mem_append_right _ (List.mem_cons_of_mem _ ?_))⟩
        rcases List.mem_cons.1 z with z | z
        · cases z
        · exact z) (List.mem_range.2 la) (by
        simp only [Bool.and_eq_true, Option.isNone_iff_eq_none, Bool.not_eq_true', decide_eq_false_iff_not]
        refine ⟨own0, fun z => ?_⟩
        rcases List.mem_cons.1 z with z | z
        · cases z
        · exact Nat.lt_irrefl _ (ordt.1 (a, true) z rfl)) (by
        have : decide ((a, true) ∈ r.2.map (fun n : Int => (n.toNat, false)) ++ (a, true) :: left) = true := decide_eq_true (List.mem_append_right _ List.mem_cons_self)
        simp only [this, Bool.not_true, Bool.and_false])
      show (r.2.map (fun n : Int => (n.toNat, false)) ++ (a, true) :: left).length + 4 * cntP t (r.2.map (fun n : Int => (n.toNat, false)) ++ (a, true) :: left) own < ((a, false) :: left).length + 4 * cntP t ((a, false) :: left) own
      rw [List.length_append, List.length_cons, List.length_cons]
      omega
  | true =>
    have hparts : ∀ n ∈ r.2, ∃ k, ownAt own n.toNat = some k ∧ (n.toNat, k) ∈ own ∧ k < rows.length := fun n hn => by
      rcases h.part [] left a rfl n (by rw [ra]; exact hn) with z | ⟨_, z⟩
      · obtain ⟨k, hk⟩ := Option.isSome_iff_exists.1 z
        exact ⟨k, hk, ownAt_mem hk, (h.ownl _ (ownAt_mem hk)).2⟩
      · cases z
    obtain ⟨m, em⟩ : ∃ m, m = markOf t own a := ⟨_, rfl⟩
    have em2 : m = (r.1, r.2.map fun n => (((ownAt own n.toNat).getD 0 : Nat) : Int)) := by rw [em]; unfold markOf; rw [ra]
    have hval : ∀ (β : Type) (d : β) (f : Str → List β → β), f m.1 (m.2.map fun n => (foldV d f rows).getD n.toNat d) = f r.1 (r.2.map fun n => (foldV d f t).getD n.toNat d) := fun β d f => by
      rw [em2]
      show f r.1 ((r.2.map fun n => (((ownAt own n.toNat).getD 0 : Nat) : Int)).map fun n => (foldV d f rows).getD n.toNat d) = _
      rw [List.map_map]
      congr 1
      refine List.map_congr_left fun n hn => ?_
      obtain ⟨k, hk, hm, _⟩ := hparts n hn
      show (foldV d f rows).getD (((ownAt own n.toNat).getD 0 : Nat) : Int).toNat d = _
      rw [hk, Option.getD_some, Int.toNat_natCast, List.getD_eq_getElem?_getD, List.getD_eq_getElem?_getD, h.same _ hm β d f]
    have mlen : m.2.length ≤ 2 := by rw [em2]; show (r.2.map _).length ≤ 2; rw [List.length_map]; exact rix.1
    have mrow : ∀ (j : Nat) (n q : Int), m.2[j]? = some n → r.2[j]? = some q → 0 ≤ q ∧ q.toNat < a ∧ 0 ≤ n ∧ n.toNat < rows.length ∧ (rowAt rows n.toNat).1 = (rowAt t q.toNat).1 := fun j n q hn hq => by
      rw [em2] at hn
      rw [List.getElem?_map, hq] at hn
      cases hn
      obtain ⟨k, hk, hm, hkl⟩ := hparts q (List.mem_of_getElem? hq)
      have := rix.2 q (List.mem_of_getElem? hq)
      show 0 ≤ q ∧ q.toNat < a ∧ (0 : Int) ≤ (((ownAt own q.toNat).getD 0 : Nat) : Int) ∧ (((ownAt own q.toNat).getD 0 : Nat) : Int).toNat < rows.length ∧ (rowAt rows (((ownAt own q.toNat).getD 0 : Nat) : Int).toNat).1 = (rowAt t q.toNat).1
      rw [hk, Option.getD_some, Int.toNat_natCast]
      exact ⟨this.1, by omega, Int.natCast_nonneg _, hkl, h.name _ hm⟩
    have mnum : ∀ n ∈ m.2, 0 ≤ n ∧ n < (rows.length : Int) := fun n hn => by
      obtain ⟨j, hj⟩ := List.mem_iff_getElem?.1 hn
      have lj := (List.getElem?_eq_some_iff.1 hj).1
      have l2 : j < r.2.length := by rw [em2] at lj; rw [List.length_map] at lj; exact lj
      have := mrow j n _ hj (List.getElem?_eq_getElem l2)
      omega
    have vt : ∀ (β : Type) (d : β) (f : Str → List β → β), (foldV d f t)[a]? = some (f m.1 (m.2.map fun n => (foldV d f rows).getD n.toNat d)) := fun β d f => by rw [hval β d f, foldV_at ok er]
    have newown : ∀ {k : Nat} (x : Nat), ownAt (own ++ [(a, k)]) x = none → ownAt own x = none ∧ x ≠ a := fun {k} x hx => by
      rw [ownAt_app] at hx
      cases c : ownAt own x with
      | some y => rw [c] at hx; cases hx
      | none =>
        rw [c] at hx
        refine ⟨rfl, fun z => ?_⟩
        rw [if_pos z.symm] at hx
        cases hx
    have stillown : ∀ {k : Nat} (x : Nat), (ownAt own x).isSome = true ∨ x = a → (ownAt (own ++ [(a, k)]) x).isSome = true := fun {k} x hx => by
      rw [ownAt_app]
      rcases hx with hx | rfl
      · obtain ⟨y, hy⟩ := Option.isSome_iff_exists.1 hx
        rw [hy]
        rfl
      · rw [own0, if_pos rfl]
        rfl
    have part' : ∀ {k : Nat} (above below : List (Nat × Bool)) (x : Nat), left = above ++ (x, true) :: below → ∀ n ∈ (rowAt t x).2, (ownAt (own ++ [(a, k)]) n.toNat).isSome = true ∨ ∃ b, (n.toNat, b) ∈ above := fun {k} above below x e n hn => by
      rcases h.part ((a, true) :: above) below x (by show (a, true) :: left = _; rw [e]; rfl) n hn with z | ⟨b2, z⟩
      · exact .inl (stillown _ (.inl z))
      · rcases List.mem_cons.1 z with z | z
        · exact .inl (stillown _ (.inr (congrArg Prod.fst z)))
        · exact .inr ⟨b2, z⟩
    have ownd' : ∀ {k : Nat}, ((own ++ [(a, k)]).map (·.1)).Nodup := fun {k} => by
      rw [List.map_append]
      refine List.nodup_append.2 ⟨h.ownd, List.nodup_cons.2 ⟨fun z => (nomatch z), List.nodup_nil⟩, fun x hx y hy => ?_⟩
      rw [List.mem_singleton.1 hy]
      intro z
      rw [z] at hx
      exact ownAt_none own0 hx
    have less : ∀ {rows' : Tr} {k : Nat}, measP t ⟨left, rows', own ++ [(a, k)]⟩ < measP t ⟨(a, true) :: left, rows, own⟩ := fun {rows' k} => meas_le rfl fun x h1 h2 => by
      obtain ⟨h3, h4⟩ := newown x h1
      refine ⟨h3, fun z => ?_⟩
      rcases List.mem_cons.1 z with z | z
      · exact h4 (congrArg Prod.fst z)
      · exact h2 z
    cases cm : markIx rows m with
    | some k =>
      have es : stepP t ⟨(a, true) :: left, rows, own⟩ = ⟨left, rows, own ++ [(a, k)]⟩ := by
        show (if (ownAt own a).isSome = true then _ else if true = true then _ else _) = _
        rw [if_neg c1, if_pos rfl, ← em, cm]
      rw [es]
      have hk := markIx_some cm
      have lk := (List.getElem?_eq_some_iff.1 hk).1
      refine ⟨⟨fun p hp => h.stk p (List.mem_cons_of_mem _ hp), ordt.2, part', fun p hp => ?_, ownd', by show rows.length ≤ (own ++ [(a, k)]).length; have := h.few; rw [List.length_append]; replace this : rows.length ≤ own.length := this; omega, h.nd, h.idx, fun p hp => ?_, fun p hp β d f => ?_, h.rowl, ?_⟩, less⟩
      · rcases List.mem_append.1 hp with hp | hp
        · exact h.ownl p hp
        · rw [List.mem_singleton.1 hp]
          exact ⟨la, lk⟩
      · rcases List.mem_append.1 hp with hp | hp
        · exact h.name p hp
        · rw [List.mem_singleton.1 hp]
          show (rowAt rows k).1 = (rowAt t a).1
          rw [rowAt_eq hk, ra, em2]
      · rcases List.mem_append.1 hp with hp | hp
        · exact h.same p hp β d f
        · rw [List.mem_singleton.1 hp]
          show (foldV d f rows)[k]? = (foldV d f t)[a]?
          rw [vt, foldV_at h.idx hk]
      · have sk : szT rows k = szT t a := by
          unfold szT
          rw [List.getD_eq_getElem?_getD, List.getD_eq_getElem?_getD, vt, foldV_at h.idx hk]
        rcases cons_app ebase with ⟨_, e, e2⟩ | ⟨pre', rfl, e⟩
        · exfalso
          have ea : a = t.length - 1 := congrArg Prod.fst e
          have := hsz k lk
          replace this : szT rows k < szT t (t.length - 1) := this
          rw [sk, ea] at this
          exact Int.lt_irrefl _ this
        · have sa := hpre (a, true) List.mem_cons_self
          refine .inl ⟨pre', b', e, fun p hp => hpre p (List.mem_cons_of_mem _ hp), hsz, ?_⟩
          show ownAt (own ++ [(a, k)]) (t.length - 1) = none
          rw [ownAt_app, hroot, if_neg fun z => ?_]
          · rfl
          · rw [z] at sa
            exact Int.lt_irrefl _ sa
    | none =>
      have es : stepP t ⟨(a, true) :: left, rows, own⟩ = ⟨left, rows ++ [m], own ++ [(a, rows.length)]⟩ := by
        show (if (ownAt own a).isSome = true then _ else if true = true then _ else _) = _
        rw [if_neg c1, if_pos rfl, ← em, cm]
      rw [es]
      have hm := markIx_none cm
      have rold : ∀ k, k < rows.length → rowAt (rows ++ [m]) k = rowAt rows k := fun k hk => getD_snoc hk
      have rnew : rowAt (rows ++ [m]) rows.length = m := getD_last
      have vnew : ∀ (β : Type) (d : β) (f : Str → List β → β), (foldV d f (rows ++ [m]))[rows.length]? = (foldV d f t)[a]? := fun β d f => by
        rw [vt, foldV_snoc, List.getElem?_append_right (by rw [foldV_len]; exact Nat.le_refl _), foldV_len, Nat.sub_self]
        rfl
      refine ⟨⟨fun p hp => h.stk p (List.mem_cons_of_mem _ hp), ordt.2, part', fun p hp => ?_, ownd', by show (rows ++ [m]).length ≤ (own ++ [(a, rows.length)]).length; have := h.few; replace this : rows.length ≤ own.length := this; rw [List.length_append, List.length_append]; simp; omega, ?_, h.idx.snoc mlen mnum, fun p hp => ?_, fun p hp β d f => ?_, fun k q hq => ?_, ?_⟩, less⟩
      · show p.1 < t.length ∧ p.2 < (rows ++ [m]).length
        rw [List.length_append, List.length_singleton]
        rcases List.mem_append.1 hp with hp | hp
        · have := h.ownl p hp
          replace this : p.1 < t.length ∧ p.2 < rows.length := this
          exact ⟨this.1, by omega⟩
        · rw [List.mem_singleton.1 hp]
          exact ⟨la, Nat.lt_succ_self _⟩
      · refine List.nodup_append.2 ⟨h.nd, List.nodup_cons.2 ⟨fun z => (nomatch z), List.nodup_nil⟩, fun x hx y hy => ?_⟩
        rw [List.mem_singleton.1 hy]
        intro z
        rw [z] at hx
        exact hm hx
      · show (rowAt (rows ++ [m]) p.2).1 = _
        rcases List.mem_append.1 hp with hp | hp
        · rw [rold _ (h.ownl p hp).2]
          exact h.name p hp
        · rw [List.mem_singleton.1 hp]
          show (rowAt (rows ++ [m]) rows.length).1 = (rowAt t a).1
          rw [rnew, ra, em2]
      · show (foldV d f (rows ++ [m]))[p.2]? = _
        rcases List.mem_append.1 hp with hp | hp
        · rw [foldV_app h.idx m (h.ownl p hp).2]
          exact h.same p hp β d f
        · rw [List.mem_singleton.1 hp]
          exact vnew β d f
      · replace hq : (rows ++ [m])[k]? = some q := hq
        show ∃ a, a < t.length ∧ q.1 = (rowAt t a).1 ∧ q.2.length = (rowAt t a).2.length ∧ ∀ (j : Nat) (n m' : Int), q.2[j]? = some n → (rowAt t a).2[j]? = some m' → 0 ≤ m' ∧ m'.toNat < a ∧ 0 ≤ n ∧ n.toNat < k ∧ (rowAt (rows ++ [m]) n.toNat).1 = (rowAt t m'.toNat).1
        by_cases c : k < rows.length
        · rw [List.getElem?_append_left c] at hq
          obtain ⟨x, x1, x2, x3, x4⟩ := h.rowl k q hq
          refine ⟨x, x1, x2, x3, fun j n m' hn hm' => ?_⟩
          obtain ⟨y1, y2, y3, y4, y5⟩ := x4 j n m' hn hm'
          exact ⟨y1, y2, y3, y4, by rw [rold _ (by omega)]; exact y5⟩
        · rw [List.getElem?_append_right (by omega)] at hq
          have ek : k = rows.length := by
            have := (List.getElem?_eq_some_iff.1 hq).1
            rw [List.length_singleton] at this
            omega
          subst ek
          rw [Nat.sub_self] at hq
          cases hq
          refine ⟨a, la, by rw [ra, em2], by rw [ra, em2, List.length_map], fun j n m' hn hm' => ?_⟩
          rw [ra] at hm'
          obtain ⟨y1, y2, y3, y4, y5⟩ := mrow j n m' hn hm'
          exact ⟨y1, y2, y3, y4, by rw [rold _ y4]; exact y5⟩
      · rcases cons_app ebase with ⟨_, e, e2⟩ | ⟨pre', rfl, e⟩
        · have ea : a = t.length - 1 := congrArg Prod.fst e
          refine .inr ⟨e2, rows.length, ?_, ?_⟩
          · show ownAt (own ++ [(a, rows.length)]) (t.length - 1) = _
            rw [ownAt_app, hroot, if_pos ea]
            rfl
          · show _ = (rows ++ [m]).length
            rw [List.length_append, List.length_singleton]
        · have sa := hpre (a, true) List.mem_cons_self
          refine .inl ⟨pre', b', e, fun p hp => hpre p (List.mem_cons_of_mem _ hp), fun k hk => ?_, ?_⟩
          · replace hk : k < (rows ++ [m]).length := hk
            show szT (rows ++ [m]) k < _
            rw [List.length_append, List.length_singleton] at hk
            by_cases c : k < rows.length
            · have : szT (rows ++ [m]) k = szT rows k := by
                unfold szT
                rw [List.getD_eq_getElem?_getD, List.getD_eq_getElem?_getD, foldV_app h.idx m c]
              rw [this]
              exact hsz k c
            · have ek : k = rows.length := by omega
              subst ek
              have : szT (rows ++ [m]) rows.length = szT t a := by
                unfold szT
                rw [List.getD_eq_getElem?_getD, List.getD_eq_getElem?_getD, vnew]
              rw [this]
              exact sa
          · show ownAt (own ++ [(a, rows.length)]) (t.length - 1) = none
            rw [ownAt_app, hroot, if_neg fun z => ?_]
            · rfl
            · rw [z] at sa
              exact Int.lt_irrefl _ sa
end Bk
set_option Elab.async false
set_option linter.all false
set_option maxRecDepth 100000
set_option maxHeartbeats 4000000
/-! Bk42: the plain tree's loop on the heap; reversed; dicts by whole numbers. -/
namespace Bk
open PySem PySem.Spec PyProof.Rows L2
/-! ### dicts by whole numbers -/
/-! ### reversed(tuple) -/
/-! ### the plain tree's loop -/
/-- (a row's number, is it done) on a pile, its top last -/
def LfAt (H : Hp) : List (Nat × Bool) → List V → Prop
  | [], vs => vs = []
  | p :: l, vs => ∃ xs q, vs = xs ++ [.ref q] ∧ H q = some (.tup [.int (p.1 : Nat), .bl p.2]) ∧ LfAt H l xs
theorem LfAt.tk {H H' : Hp} (t : Tk H H') : ∀ {l : List (Nat × Bool)} {vs : List V}, LfAt H l vs → LfAt H' l vs
  | [], _, h => h
  | p :: l, _, ⟨xs, q, e, h1, h2⟩ => ⟨xs, q, e, t _ _ h1, LfAt.tk t h2⟩
theorem LfAt.len {H : Hp} : ∀ {l : List (Nat × Bool)} {vs : List V}, LfAt H l vs → vs.length = l.length
  | [], _, h => by rw [show _ = _ from h]; rfl
  | p :: l, _, ⟨xs, q, e, h1, h2⟩ => by rw [e, List.length_append, LfAt.len h2]; rfl
theorem LfAt.ext {H : Hp} {l : List (Nat × Bool)} {xs : List V} (h : LfAt H l xs) : ∀ {ps : List (Nat × Bool)} {acc : List V}, acc.length = ps.length → (∀ (j : Nat) (v : V), acc[j]? = some v → ∃ q p, v = .ref q ∧ ps[ps.length - 1 - j]? = some p ∧ H q = some (.tup [.int (p.1 : Nat), .bl p.2])) → LfAt H (ps ++ l) (xs ++ acc)
  | [], acc, hl, _ => by
    rw [List.eq_nil_of_length_eq_zero hl, List.append_nil]
    exact h
  | p :: ps, acc, hl, ha => by
    rw [List.length_cons] at hl
    have ne : acc ≠ [] := fun z => by rw [z] at hl; cases hl
    have e := List.dropLast_concat_getLast ne
    have hlast : acc[ps.length]? = some (acc.getLast ne) := by
      rw [List.getLast_eq_getElem, List.getElem?_eq_getElem (by omega)]
      congr 2
      omega
    obtain ⟨q, p', hq, hp, hH⟩ := ha _ _ hlast
    rw [List.length_cons, show ps.length + 1 - 1 - ps.length = 0 by omega] at hp
    cases hp
    refine ⟨xs ++ acc.dropLast, q, ?_, hH, LfAt.ext h (by rw [List.length_dropLast]; omega) fun j v hj => ?_⟩
    · rw [List.append_assoc, ← hq, e]
    · have lj : j < acc.dropLast.length := (List.getElem?_eq_some_iff.1 hj).1
      have ld : acc.dropLast.length = ps.length := by rw [List.length_dropLast]; omega
      have hj2 : acc[j]? = some v := by rw [← e, List.getElem?_append_left lj]; exact hj
      obtain ⟨q2, p2, h1, h2, h3⟩ := ha j v hj2
      refine ⟨q2, p2, h1, ?_, h3⟩
      rw [List.length_cons, show ps.length + 1 - 1 - j = (ps.length - 1 - j) + 1 by omega] at h2
      exact h2
section
variable {t : Tr} {a : Nat} {left : List (Nat × Bool)} {rows : Tr} {own : List (Nat × Nat)}
theorem stepP_there {b : Bool} {k : Nat} (h : ownAt own a = some k) : stepP t ⟨(a, b) :: left, rows, own⟩ = ⟨left, rows, own⟩ := by
  show (if (ownAt own a).isSome = true then _ else _) = _
  exact if_pos (by rw [h]; rfl)
theorem stepP_open (h : ownAt own a = none) : stepP t ⟨(a, false) :: left, rows, own⟩ = ⟨(rowAt t a).2.map (fun n => (n.toNat, false)) ++ (a, true) :: left, rows, own⟩ := by
  show (if (ownAt own a).isSome = true then _ else if false = true then _ else _) = _
  rw [if_neg (by rw [h]; exact Bool.false_ne_true), if_neg Bool.false_ne_true]
theorem stepP_old {k : Nat} (h : ownAt own a = none) (hm : markIx rows (markOf t own a) = some k) : stepP t ⟨(a, true) :: left, rows, own⟩ = ⟨left, rows, own ++ [(a, k)]⟩ := by
  show (if (ownAt own a).isSome = true then _ else if true = true then _ else _) = _
  rw [if_neg (by rw [h]; exact Bool.false_ne_true), if_pos rfl, hm]
theorem stepP_new (h : ownAt own a = none) (hm : markIx rows (markOf t own a) = none) : stepP t ⟨(a, true) :: left, rows, own⟩ = ⟨left, rows ++ [markOf t own a], own ++ [(a, rows.length)]⟩ := by
  show (if (ownAt own a).isSome = true then _ else if true = true then _ else _) = _
  rw [if_neg (by rw [h]; exact Bool.false_ne_true), if_pos rfl, hm]
end
theorem PInv.sizes {t : Tr} {s : PlSt} (h : PInv t s) : s.own.length ≤ t.length ∧ s.rows.length ≤ t.length := by
  have a : s.own.length ≤ t.length := by
    have : (s.own.map (·.1)).length ≤ (List.range t.length).length := List.Nodup.length_le_of_subset h.ownd fun x hx => by
      obtain ⟨p, hp, rfl⟩ := List.mem_map.1 hx
      exact List.mem_range.2 (h.ownl p hp).1
    rw [List.length_map, List.length_range] at this
    exact this
  exact ⟨a, Nat.le_trans h.few a⟩
end Bk
set_option Elab.async false
set_option linter.all false
set_option maxRecDepth 100000
set_option maxHeartbeats 4000000
/-! Bk43: what is printed of a tree. -/
namespace Bk
open PySem PySem.Spec PyProof.Rows L2
/-! ### trees of a wood -/
structure TrW (w : Wd) (t : Tr) : Prop where
  idx : TrIdx t
  row : ∀ (i : Nat) (row : Str × List Int), t[i]? = some row → ∃ j e, PartsAt w ([], []) t i row j e
/-! ### how long the texts are -/
theorem perm_sum {l m : List Nat} (h : l.Perm m) : l.sum = m.sum := by
  induction h with
  | nil => rfl
  | cons x _ ih => rw [List.sum_cons, List.sum_cons, ih]
  | swap x y l => rw [List.sum_cons, List.sum_cons, List.sum_cons, List.sum_cons]; omega
  | trans _ _ a b => rw [a, b]
theorem sub_sum {α : Type} [DecidableEq α] (f : α → Nat) : ∀ (bs L : List α), bs.Nodup → (∀ b ∈ bs, b ∈ L) → (bs.map f).sum ≤ (L.map f).sum
  | [], L, _, _ => Nat.zero_le _
  | b :: bs, L, nd, h => by
    have nd' := List.nodup_cons.1 nd
    have p := List.perm_cons_erase (h b List.mem_cons_self)
    rw [perm_sum (p.map f), List.map_cons, List.map_cons, List.sum_cons, List.sum_cons]
    have := sub_sum f bs (L.erase b) nd'.2 fun c hc => (List.mem_erase_of_ne (fun z => nd'.1 (by rw [← z]; exact hc))).2 (h c (List.mem_cons_of_mem _ hc))
    omega
end Bk
set_option Elab.async false
/-! Bk44: joining sign by sign; the plain tree's printing. -/
namespace Bk
open PySem PySem.Spec PyProof.Rows L2
/-! ### signs of what is printed -/
/-! ### the plain tree's end -/
theorem runP_own {t : Tr} : ∀ (n k : Nat), k < (runP t n).rows.length → ∃ a, (a, k) ∈ (runP t n).own
  | 0, k, h => absurd h (Nat.not_lt_zero _)
  | n + 1, k, h => by
    have ih := runP_own (t := t) n
    have e : runP t (n + 1) = stepP t (runP t n) := rfl
    rw [e] at h ⊢
    generalize runP t n = s at ih h
    obtain ⟨left, rows, own⟩ := s
    cases left with
    | nil => exact ih k h
    | cons p left =>
      obtain ⟨a, b⟩ := p
      cases c : ownAt own a with
      | some kk =>
        rw [stepP_there c] at h ⊢
        exact ih k h
      | none =>
        cases b with
        | false =>
          rw [stepP_open c] at h ⊢
          exact ih k h
        | true =>
          cases cm : markIx rows (markOf t own a) with
          | some q =>
            rw [stepP_old c cm] at h ⊢
            obtain ⟨x, hx⟩ := ih k h
            exact ⟨x, List.mem_append_left _ hx⟩
          | none =>
            rw [stepP_new c cm] at h ⊢
            by_cases ck : k < rows.length
            · obtain ⟨x, hx⟩ := ih k ck
              exact ⟨x, List.mem_append_left _ hx⟩
            · replace h : k < (rows ++ [markOf t own a]).length := h
              rw [List.length_append, List.length_singleton] at h
              have : k = rows.length := by omega
              subst this
              exact ⟨a, List.mem_append_right _ (List.mem_singleton.2 rfl)⟩
structure PlEnd (t r : Tr) : Prop where
  pos : 0 < r.length
  le : r.length ≤ t.length
  idx : TrIdx r
  last : ∀ (β : Type) (d : β) (f : Str → List β → β), (foldV d f r)[r.length - 1]? = (foldV d f t)[t.length - 1]?
  each : ∀ k, k < r.length → ∃ a, a < t.length ∧ ∀ (β : Type) (d : β) (f : Str → List β → β), (foldV d f r)[k]? = (foldV d f t)[a]?
theorem PInv.fin {t : Tr} {n : Nat} (h : PInv t (runP t n)) (hl : (runP t n).left = []) : PlEnd t (runP t n).rows := by
  rcases h.base with ⟨pre, b, e, _⟩ | ⟨_, k, hk, e⟩
  · rw [hl] at e
    cases pre <;> cases e
  · have hm := ownAt_mem hk
    refine ⟨by omega, h.sizes.2, h.idx, fun β d f => ?_, fun j hj => ?_⟩
    · have := h.same _ hm β d f
      rw [← e, Nat.add_sub_cancel]
      exact this
    · obtain ⟨a, ha⟩ := runP_own n j hj
      exact ⟨a, (h.ownl _ ha).1, fun β d f => h.same _ ha β d f⟩
theorem PlEnd.size {t r : Tr} (h : PlEnd t r) {k : Nat} (hk : k < r.length) : ∃ a, a < t.length ∧ szT r k = szT t a := by
  obtain ⟨a, la, e⟩ := h.each k hk
  refine ⟨a, la, ?_⟩
  unfold szT
  rw [List.getD_eq_getElem?_getD, List.getD_eq_getElem?_getD, e]
end Bk
set_option Elab.async false
/-! Bk45: dict(zip(a, b, strict=True)). -/
namespace Bk
open PySem PySem.Spec PyProof.Rows L2
end Bk
set_option Elab.async false
/-! Bk46: slices of tuples from their beginning. -/
namespace Bk
open PySem PySem.Spec PyProof.Rows L2
theorem Reps.take {H : Hp} : ∀ {ds : List D} {vs : List V} (k : Nat), Reps H ds vs → Reps H (ds.take k) (vs.take k)
  | ds, vs, 0, _ => by simp only [List.take_zero, Reps]
  | [], vs, k + 1, h => by
    simp only [Reps] at h
    subst h
    simp only [List.take_nil, Reps]
  | d :: ds, vs, k + 1, h => by
    obtain ⟨v, r, rfl, hv, hr⟩ := h
    exact ⟨v, r.take k, rfl, hv, Reps.take k hr⟩
end Bk
set_option Elab.async false
/-! Bk47: dicts by marks: setdefault, len, list. -/
namespace Bk
open PySem PySem.Spec PyProof.Rows L2
end Bk
set_option Elab.async false
/-! Bk48: the plain tree as a function of the tree alone. -/
namespace Bk
open PySem PySem.Spec PyProof.Rows L2
inductive PT where
  | node (s : Str) (ps : List PT)
instance : Inhabited PT := ⟨.node "" []⟩
mutual
def goT : PT → Tr → Tr × Nat
  | .node s ps, rows =>
    let r := goL ps rows
    match markIx r.1 (s, r.2.map fun n => ((n : Nat) : Int)) with
    | some k => (r.1, k)
    | none => (r.1 ++ [(s, r.2.map fun n => ((n : Nat) : Int))], r.1.length)
def goL : List PT → Tr → Tr × List Nat
  | [], rows => (rows, [])
  | p :: ps, rows =>
    let r := goT p rows
    let r2 := goL ps r.1
    (r2.1, r.2 :: r2.2)
end
def mkI (s : Str) (ks : List Nat) : Mark := (s, ks.map fun n => ((n : Nat) : Int))
theorem goT_node {s : Str} {ps : List PT} {rows : Tr} : goT (.node s ps) rows = match markIx (goL ps rows).1 (mkI s (goL ps rows).2) with
    | some k => ((goL ps rows).1, k)
    | none => ((goL ps rows).1 ++ [mkI s (goL ps rows).2], (goL ps rows).1.length) := by
  rw [goT]
  rfl
theorem goL_cons {p : PT} {ps : List PT} {rows : Tr} : goL (p :: ps) rows = ((goL ps (goT p rows).1).1, (goT p rows).2 :: (goL ps (goT p rows).1).2) := by rw [goL]
theorem goL_nil {rows : Tr} : goL [] rows = (rows, []) := by rw [goL]
mutual
theorem goT_ext : ∀ (p : PT) (rows : Tr), ∃ e, (goT p rows).1 = rows ++ e
  | .node s ps, rows => by
    obtain ⟨e, h⟩ := goL_ext ps rows
    rw [goT_node]
    split
    · exact ⟨e, h⟩
    · exact ⟨e ++ [mkI s (goL ps rows).2], by rw [← List.append_assoc, ← h]⟩
theorem goL_ext : ∀ (ps : List PT) (rows : Tr), ∃ e, (goL ps rows).1 = rows ++ e
  | [], rows => ⟨[], by rw [goL_nil, List.append_nil]⟩
  | p :: ps, rows => by
    obtain ⟨e, h⟩ := goT_ext p rows
    obtain ⟨f, g⟩ := goL_ext ps (goT p rows).1
    rw [goL_cons]
    exact ⟨e ++ f, by show (goL ps (goT p rows).1).1 = _; rw [g, h, List.append_assoc]⟩
end
theorem markIx_app {rows e : Tr} {m : Mark} {k : Nat} (h : markIx rows m = some k) : markIx (rows ++ e) m = some k := by
  unfold markIx at h ⊢
  rw [List.findIdx?_append, h]
  rfl
theorem markIx_last {rows : Tr} {m : Mark} (h : markIx rows m = none) : markIx (rows ++ [m]) m = some rows.length := by
  unfold markIx at h ⊢
  rw [List.findIdx?_append, h]
  simp [List.findIdx?_cons]
/-- it stands there already -/
def AtT (rows : Tr) (p : PT) (k : Nat) : Prop := goT p rows = (rows, k)
def AtL (rows : Tr) (ps : List PT) (ks : List Nat) : Prop := goL ps rows = (rows, ks)
theorem app_nil {α : Type} {l e f : List α} (h : l ++ e ++ f = l) : e = [] ∧ f = [] := by
  have := congrArg List.length h
  rw [List.length_append, List.length_append] at this
  exact ⟨List.eq_nil_of_length_eq_zero (by omega), List.eq_nil_of_length_eq_zero (by omega)⟩
theorem AtT.inv {rows : Tr} {s : Str} {ps : List PT} {k : Nat} (h : AtT rows (.node s ps) k) : ∃ ks, AtL rows ps ks ∧ markIx rows (mkI s ks) = some k := by
  unfold AtT at h
  obtain ⟨e, he⟩ := goL_ext ps rows
  rw [goT_node] at h
  split at h
  · rename_i j hj
    have h1 := congrArg Prod.fst h
    have h2 := congrArg Prod.snd h
    replace h1 : (goL ps rows).1 = rows := h1
    replace h2 : j = k := h2
    refine ⟨(goL ps rows).2, ?_, ?_⟩
    · unfold AtL
      rw [Prod.ext_iff]
      exact ⟨h1, rfl⟩
    · rw [h1, h2] at hj
      exact hj
  · exfalso
    have h1 := congrArg (fun x => x.1.length) h
    replace h1 : ((goL ps rows).1 ++ [mkI s (goL ps rows).2]).length = rows.length := h1
    rw [he, List.length_append, List.length_append, List.length_singleton] at h1
    omega
theorem AtT.mk {rows : Tr} {s : Str} {ps : List PT} {ks : List Nat} {k : Nat} (h : AtL rows ps ks) (m : markIx rows (mkI s ks) = some k) : AtT rows (.node s ps) k := by
  unfold AtT AtL at *
  rw [goT_node, h]
  show (match markIx rows (mkI s ks) with | some k => (rows, k) | none => _) = _
  rw [m]
theorem AtL.inv {rows : Tr} {p : PT} {ps : List PT} {ks : List Nat} (h : AtL rows (p :: ps) ks) : ∃ k ks', ks = k :: ks' ∧ AtT rows p k ∧ AtL rows ps ks' := by
  unfold AtL at h
  rw [goL_cons] at h
  obtain ⟨e, he⟩ := goT_ext p rows
  obtain ⟨f, hf⟩ := goL_ext ps (goT p rows).1
  have h1 := congrArg Prod.fst h
  have h2 := congrArg Prod.snd h
  replace h1 : (goL ps (goT p rows).1).1 = rows := h1
  replace h2 : (goT p rows).2 :: (goL ps (goT p rows).1).2 = ks := h2
  have z := h1
  rw [hf, he] at z
  obtain ⟨z1, z2⟩ := app_nil z
  have g1 : (goT p rows).1 = rows := by rw [he, z1, List.append_nil]
  rw [g1] at h1 h2
  exact ⟨_, _, h2.symm, Prod.ext g1 rfl, Prod.ext h1 rfl⟩
theorem AtL.mk {rows : Tr} {p : PT} {ps : List PT} {k : Nat} {ks : List Nat} (h : AtT rows p k) (t : AtL rows ps ks) : AtL rows (p :: ps) (k :: ks) := by
  unfold AtT AtL at *
  rw [goL_cons, h]
  show ((goL ps rows).1, k :: (goL ps rows).2) = _
  rw [t]
mutual
theorem AtT.app : ∀ (p : PT) {rows : Tr} {k : Nat} (e : Tr), AtT rows p k → AtT (rows ++ e) p k
  | .node s ps, rows, k, e, h => by
    obtain ⟨ks, h1, h2⟩ := h.inv
    exact AtT.mk (AtL.app ps e h1) (markIx_app h2)
theorem AtL.app : ∀ (ps : List PT) {rows : Tr} {ks : List Nat} (e : Tr), AtL rows ps ks → AtL (rows ++ e) ps ks
  | [], rows, ks, e, h => by
    have : ks = [] := by
      unfold AtL at h
      rw [goL_nil] at h
      exact (congrArg Prod.snd h).symm
    subst this
    unfold AtL
    rw [goL_nil]
  | p :: ps, rows, ks, e, h => by
    obtain ⟨k, ks', rfl, h1, h2⟩ := h.inv
    exact AtL.mk (AtT.app p e h1) (AtL.app ps e h2)
end
mutual
theorem go_at : ∀ (p : PT) (rows : Tr), AtT (goT p rows).1 p (goT p rows).2
  | .node s ps, rows => by
    have ih := go_atL ps rows
    rw [goT_node]
    split
    · rename_i k hk
      exact AtT.mk ih hk
    · rename_i hk
      exact AtT.mk (AtL.app ps _ ih) (markIx_last hk)
theorem go_atL : ∀ (ps : List PT) (rows : Tr), AtL (goL ps rows).1 ps (goL ps rows).2
  | [], rows => by
    unfold AtL
    rw [goL_nil, goL_nil]
  | p :: ps, rows => by
    have h1 := go_at p rows
    have h2 := go_atL ps (goT p rows).1
    obtain ⟨f, hf⟩ := goL_ext ps (goT p rows).1
    rw [goL_cons]
    refine AtL.mk ?_ h2
    show AtT (goL ps (goT p rows).1).1 p _
    rw [hf]
    exact AtT.app p f h1
end
/-! ### the run from any state -/
def trP (t : Tr) : List PT := foldV default PT.node t
def trA (t : Tr) (a : Nat) : PT := (trP t).getD a default
theorem trA_at {t : Tr} (ok : TrIdx t) {a : Nat} {r : Str × List Int} (h : t[a]? = some r) : trA t a = .node r.1 (r.2.map fun n => trA t n.toNat) := by
  unfold trA trP
  rw [List.getD_eq_getElem?_getD, foldV_at ok h]
  rfl
inductive StepsP (t : Tr) : PlSt → PlSt → Prop where
  | refl (s) : StepsP t s s
  | step {s u} : StepsP t (stepP t s) u → StepsP t s u
theorem StepsP.trans {t : Tr} {a b c : PlSt} (h : StepsP t a b) (g : StepsP t b c) : StepsP t a c := by
  induction h with
  | refl => exact g
  | step _ ih => exact .step (ih g)
def OwnOk (t : Tr) (rows : Tr) (own : List (Nat × Nat)) : Prop := ∀ a k, ownAt own a = some k → AtT rows (trA t a) k
theorem ownAt_snoc {own : List (Nat × Nat)} {a k : Nat} (h : ownAt own a = none) : ownAt (own ++ [(a, k)]) a = some k := by
  rw [ownAt_app, h, if_pos rfl]
  rfl
/-- what one tree's part of the run does -/
structure Does (t : Tr) (rows : Tr) (own : List (Nat × Nat)) (rows' : Tr) (own' : List (Nat × Nat)) (b : Nat) : Prop where
  ok : OwnOk t rows' own'
  keep : ∀ a k, ownAt own a = some k → ownAt own' a = some k
  low : ∀ a k, ownAt own' a = some k → ownAt own a = some k ∨ a < b
theorem Does.refl {t rows : Tr} {own : List (Nat × Nat)} (h : OwnOk t rows own) (b : Nat) : Does t rows own rows own b := ⟨h, fun _ _ z => z, fun _ _ z => .inl z⟩
theorem Does.trans {t r1 r2 r3 : Tr} {o1 o2 o3 : List (Nat × Nat)} {b : Nat} (h : Does t r1 o1 r2 o2 b) (g : Does t r2 o2 r3 o3 b) : Does t r1 o1 r3 o3 b := ⟨g.ok, fun a k z => g.keep a k (h.keep a k z), fun a k z => by
  rcases g.low a k z with z | z
  · exact h.low a k z
  · exact .inr z⟩
theorem Does.le {t r1 r2 : Tr} {o1 o2 : List (Nat × Nat)} {b c : Nat} (h : Does t r1 o1 r2 o2 b) (l : b ≤ c) : Does t r1 o1 r2 o2 c := ⟨h.ok, h.keep, fun a k z => (h.low a k z).imp id fun z => Nat.lt_of_lt_of_le z l⟩
theorem run_list {t : Tr} {b : Nat} (one : ∀ (a : Nat) (left : List (Nat × Bool)) (rows : Tr) (own : List (Nat × Nat)), a < b → OwnOk t rows own → ∃ own', StepsP t ⟨(a, false) :: left, rows, own⟩ ⟨left, (goT (trA t a) rows).1, own'⟩ ∧ ownAt own' a = some (goT (trA t a) rows).2 ∧ Does t rows own (goT (trA t a) rows).1 own' (a + 1)) :
    ∀ (ns : List Int) (left : List (Nat × Bool)) (rows : Tr) (own : List (Nat × Nat)), (∀ n ∈ ns, n.toNat < b) → OwnOk t rows own →
      ∃ own', StepsP t ⟨ns.map (fun n => (n.toNat, false)) ++ left, rows, own⟩ ⟨left, (goL (ns.map fun n => trA t n.toNat) rows).1, own'⟩ ∧ ns.map (fun n => ownAt own' n.toNat) = (goL (ns.map fun n => trA t n.toNat) rows).2.map some ∧ Does t rows own (goL (ns.map fun n => trA t n.toNat) rows).1 own' b
  | [], left, rows, own, _, ok => ⟨own, by simp only [List.map_nil, goL_nil]; exact .refl _, by simp only [List.map_nil, goL_nil], by simp only [List.map_nil, goL_nil]; exact Does.refl ok b⟩
  | n :: ns, left, rows, own, hb, ok => by
    obtain ⟨o1, s1, a1, d1⟩ := one n.toNat (ns.map (fun n => (n.toNat, false)) ++ left) rows own (hb n List.mem_cons_self) ok
    obtain ⟨o2, s2, a2, d2⟩ := run_list one ns left (goT (trA t n.toNat) rows).1 o1 (fun m hm => hb m (List.mem_cons_of_mem _ hm)) d1.ok
    have hn := hb n List.mem_cons_self
    simp only [List.map_cons, goL_cons]
    refine ⟨o2, s1.trans s2, ?_, (d1.le (by omega)).trans d2⟩
    show ownAt o2 n.toNat :: _ = some _ :: _
    rw [d2.keep _ _ a1, a2]
theorem run_one {t : Tr} (ok : TrIdx t) : ∀ (b a : Nat) (left : List (Nat × Bool)) (rows : Tr) (own : List (Nat × Nat)), a < b → a < t.length → OwnOk t rows own →
    ∃ own', StepsP t ⟨(a, false) :: left, rows, own⟩ ⟨left, (goT (trA t a) rows).1, own'⟩ ∧ ownAt own' a = some (goT (trA t a) rows).2 ∧ Does t rows own (goT (trA t a) rows).1 own' (a + 1)
  | 0, a, _, _, _, h, _, _ => absurd h (Nat.not_lt_zero _)
  | b + 1, a, left, rows, own, hab, la, okk => by
    cases c : ownAt own a with
    | some k =>
      have h := okk a k c
      unfold AtT at h
      rw [h]
      exact ⟨own, .step (by rw [stepP_there c]; exact .refl _), c, Does.refl okk _⟩
    | none =>
      obtain ⟨r, er⟩ : ∃ r, t[a]? = some r := ⟨_, List.getElem?_eq_getElem la⟩
      have ra := rowAt_eq er
      have rix := ok a r er
      obtain ⟨o1, s1, a1, d1⟩ := run_list (t := t) (b := a) (fun a' left' rows' own' h1 h2 => run_one ok b a' left' rows' own' (by omega) (by omega) h2) r.2 ((a, true) :: left) rows own (fun n hn => by have := rix.2 n hn; omega) okk
      have n1 : ownAt o1 a = none := by
        cases z : ownAt o1 a with
        | none => rfl
        | some k =>
          rcases d1.low a k z with z | z
          · rw [c] at z
            cases z
          · exact absurd z (Nat.lt_irrefl _)
      have et := trA_at ok er
      have ms : markOf t o1 a = mkI r.1 (goL (r.2.map fun n => trA t n.toNat) rows).2 := by
        unfold markOf mkI
        rw [ra]
        refine Prod.ext rfl ?_
        show r.2.map (fun n => (((ownAt o1 n.toNat).getD 0 : Nat) : Int)) = _
        have := congrArg (List.map fun x : Option Nat => ((x.getD 0 : Nat) : Int)) a1
        rw [List.map_map, List.map_map] at this
        exact this
      have st : StepsP t ⟨(a, false) :: left, rows, own⟩ ⟨(a, true) :: left, (goL (r.2.map fun n => trA t n.toNat) rows).1, o1⟩ := .step (by rw [stepP_open c, ra]; exact s1)
      rw [et, goT_node]
      have hk := go_at (trA t a) rows
      rw [et, goT_node] at hk
      cases cm : markIx (goL (r.2.map fun n => trA t n.toNat) rows).1 (mkI r.1 (goL (r.2.map fun n => trA t n.toNat) rows).2) with
      | some k =>
        rw [cm] at hk
        refine ⟨o1 ++ [(a, k)], st.trans (.step (by rw [stepP_old n1 (by rw [ms]; exact cm)]; exact .refl _)), ownAt_snoc n1, fun x k' hx => ?_, fun x k' hx => ?_, fun x k' hx => ?_⟩
        · rw [ownAt_app] at hx
          cases z : ownAt o1 x with
          | some y => rw [z] at hx; cases hx; exact d1.ok x k' z
          | none =>
            rw [z] at hx
            by_cases e : a = x
            · rw [if_pos e] at hx
              cases hx
              subst e
              rw [et]
              exact hk
            · rw [if_neg e] at hx
              cases hx
        · rw [ownAt_app, d1.keep x k' hx]
          rfl
        · rw [ownAt_app] at hx
          cases z : ownAt o1 x with
          | some y =>
            rw [z] at hx
            cases hx
            rcases d1.low x k' z with z | z
            · exact .inl z
            · exact .inr (Nat.lt_succ_of_lt z)
          | none =>
            rw [z] at hx
            by_cases e : a = x
            · exact .inr (by omega)
            · rw [if_neg e] at hx
              cases hx
      | none =>
        rw [cm] at hk
        refine ⟨o1 ++ [(a, (goL (r.2.map fun n => trA t n.toNat) rows).1.length)], st.trans (.step (by rw [stepP_new n1 (by rw [ms]; exact cm), ms]; exact .refl _)), ownAt_snoc n1, fun x k' hx => ?_, fun x k' hx => ?_, fun x k' hx => ?_⟩
        · rw [ownAt_app] at hx
          cases z : ownAt o1 x with
          | some y => rw [z] at hx; cases hx; exact AtT.app _ _ (d1.ok x k' z)
          | none =>
            rw [z] at hx
            by_cases e : a = x
            · rw [if_pos e] at hx
              cases hx
              subst e
              rw [et]
              exact hk
            · rw [if_neg e] at hx
              cases hx
        · rw [ownAt_app, d1.keep x k' hx]
          rfl
        · rw [ownAt_app] at hx
          cases z : ownAt o1 x with
          | some y =>
            rw [z] at hx
            cases hx
            rcases d1.low x k' z with z | z
            · exact .inl z
            · exact .inr (Nat.lt_succ_of_lt z)
          | none =>
            rw [z] at hx
            by_cases e : a = x
            · exact .inr (by omega)
            · rw [if_neg e] at hx
              cases hx
/-- the plain tree -/
def plainF (t : Tr) : Tr := (goT (trA t (t.length - 1)) []).1
theorem runP_steps {t : Tr} {u : PlSt} : ∀ {s : PlSt}, StepsP t s u → ∀ n, s = runP t n → ∃ m, n ≤ m ∧ u = runP t m := by
  intro s h
  induction h with
  | refl s => exact fun n e => ⟨n, Nat.le_refl _, e⟩
  | step _ ih =>
    intro n e
    obtain ⟨m, h1, h2⟩ := ih (n + 1) (by rw [e]; rfl)
    exact ⟨m, by omega, h2⟩
theorem runP_stays {t : Tr} {n : Nat} (h : (runP t n).left = []) : ∀ m, n ≤ m → runP t m = runP t n := by
  intro m hm
  induction m with
  | zero => have : n = 0 := by omega
            rw [this]
  | succ m ih =>
    by_cases c : n = m + 1
    · rw [c]
    · rw [show runP t (m + 1) = stepP t (runP t m) from rfl, ih (by omega)]
      generalize runP t n = s at h
      obtain ⟨l, r, o⟩ := s
      replace h : l = [] := h
      subst h
      rfl
theorem runP_ends {t : Tr} (ok : TrIdx t) (h : 0 < t.length) : ∃ m, (runP t m).left = [] ∧ (runP t m).rows = plainF t := by
  obtain ⟨o, s, _, _⟩ := run_one ok t.length (t.length - 1) [] [] [] (by omega) (by omega) (fun a k z => nomatch z)
  obtain ⟨m, _, e⟩ := runP_steps s 0 rfl
  exact ⟨m, by rw [← e], by rw [← e]; rfl⟩
end Bk
set_option Elab.async false
/-! Bk49: the unlike trees of a tree's rows; the plain tree by them. -/
namespace Bk
open PySem PySem.Spec PyProof.Rows L2
/-! ### a list or a tuple walked -/
/-! ### unlike rows -/
def unlStep (s : Tr × List Nat) (r : Str × List Int) : Tr × List Nat :=
  let m := mkI r.1 (r.2.map fun (n : Int) => s.2.getD n.toNat 0)
  match markIx s.1 m with
  | some k => (s.1, s.2 ++ [k])
  | none => (s.1 ++ [m], s.2 ++ [s.1.length])
def unlF (t : Tr) : Tr × List Nat := t.foldl unlStep ([], [])
theorem unlF_snoc {t : Tr} {r : Str × List Int} : unlF (t ++ [r]) = unlStep (unlF t) r := by
  unfold unlF
  rw [List.foldl_append]
  rfl
theorem unlF_take {t : Tr} {i : Nat} {r : Str × List Int} (h : t[i]? = some r) : unlF (t.take (i + 1)) = unlStep (unlF (t.take i)) r := by rw [take_at h, unlF_snoc]
structure Unl (t U : Tr) (num : List Nat) : Prop where
  len : num.length = t.length
  lt : ∀ (i k : Nat), num[i]? = some k → k < U.length
  nd : U.Nodup
  idx : TrIdx U
  le : U.length ≤ t.length
  same : ∀ (i k : Nat), num[i]? = some k → ∀ (β : Type) (d : β) (f : Str → List β → β), (foldV d f U)[k]? = (foldV d f t)[i]?
theorem Unl.step {t U : Tr} {num : List Nat} {r : Str × List Int} (h : Unl t U num) (ok : TrIdx (t ++ [r])) : Unl (t ++ [r]) (unlStep (U, num) r).1 (unlStep (U, num) r).2 := by
  have er : (t ++ [r])[t.length]? = some r := by rw [List.getElem?_append_right (Nat.le_refl _), Nat.sub_self]; rfl
  have rix := ok t.length r er
  obtain ⟨m, em⟩ : ∃ m, m = mkI r.1 (r.2.map fun (n : Int) => num.getD n.toNat 0) := ⟨_, rfl⟩
  have em2 : m = (r.1, (r.2.map fun (n : Int) => num.getD n.toNat 0).map fun n => ((n : Nat) : Int)) := em
  have mnum : ∀ n ∈ r.2, num[n.toNat]? = some (num.getD n.toNat 0) := fun n hn => by
    have := rix.2 n hn
    rw [List.getD_eq_getElem?_getD, List.getElem?_eq_getElem (by rw [h.len]; omega)]
    rfl
  have hval : ∀ (β : Type) (d : β) (f : Str → List β → β), f m.1 (m.2.map fun n => (foldV d f U).getD n.toNat d) = f r.1 (r.2.map fun n => (foldV d f t).getD n.toNat d) := fun β d f => by
    rw [em2]
    show f r.1 (((r.2.map fun (n : Int) => num.getD n.toNat 0).map fun n => ((n : Nat) : Int)).map fun n => (foldV d f U).getD n.toNat d) = _
    rw [List.map_map, List.map_map]
    congr 1
    refine List.map_congr_left fun n hn => ?_
    show (foldV d f U).getD ((num.getD n.toNat 0 : Nat) : Int).toNat d = _
    rw [Int.toNat_natCast, List.getD_eq_getElem?_getD (l := foldV d f U), List.getD_eq_getElem?_getD (l := foldV d f t), h.same _ _ (mnum n hn) β d f]
  have vt : ∀ (β : Type) (d : β) (f : Str → List β → β), (foldV d f (t ++ [r]))[t.length]? = some (f m.1 (m.2.map fun n => (foldV d f U).getD n.toNat d)) := fun β d f => by
    rw [hval β d f, foldV_snoc, List.getElem?_append_right (by rw [foldV_len]; exact Nat.le_refl _), foldV_len, Nat.sub_self]
    rfl
  have told : ∀ (i : Nat), i < t.length → ∀ (β : Type) (d : β) (f : Str → List β → β), (foldV d f (t ++ [r]))[i]? = (foldV d f t)[i]? := fun i hi β d f => by
    rw [foldV_snoc, List.getElem?_append_left (by rw [foldV_len]; exact hi)]
  have mlen : m.2.length ≤ 2 := by rw [em2]; show (List.map _ (List.map _ r.2)).length ≤ 2; rw [List.length_map, List.length_map]; exact rix.1
  have mrow : ∀ n ∈ m.2, 0 ≤ n ∧ n < (U.length : Int) := fun n hn => by
    rw [em2] at hn
    obtain ⟨x, hx, rfl⟩ := List.mem_map.1 hn
    obtain ⟨y, hy, rfl⟩ := List.mem_map.1 hx
    have := h.lt _ _ (mnum y hy)
    omega
  have snoc_get : ∀ {k0 i k : Nat}, (num ++ [k0])[i]? = some k → (i < t.length ∧ num[i]? = some k) ∨ (i = t.length ∧ k = k0) := fun {k0 i k} hk => by
    by_cases c : i < num.length
    · rw [List.getElem?_append_left c] at hk
      exact .inl ⟨by rw [← h.len]; exact c, hk⟩
    · rw [List.getElem?_append_right (by omega)] at hk
      have e : i = num.length := by
        have := (List.getElem?_eq_some_iff.1 hk).1
        rw [List.length_singleton] at this
        omega
      subst e
      rw [Nat.sub_self] at hk
      cases hk
      exact .inr ⟨h.len, rfl⟩
  cases cm : markIx U m with
  | some k0 =>
    have es : unlStep (U, num) r = (U, num ++ [k0]) := by
      show (match markIx U (mkI r.1 (r.2.map fun (n : Int) => num.getD n.toNat 0)) with | some k => (U, num ++ [k]) | none => (U ++ [mkI r.1 (r.2.map fun (n : Int) => num.getD n.toNat 0)], num ++ [U.length])) = _
      rw [← em, cm]
    rw [es]
    have hk := markIx_some cm
    refine ⟨by rw [List.length_append, List.length_append, h.len]; rfl, fun i k hik => ?_, h.nd, h.idx, by rw [List.length_append]; have := h.le; show U.length ≤ _; omega, fun i k hik β d f => ?_⟩
    · rcases snoc_get hik with ⟨_, z⟩ | ⟨_, rfl⟩
      · exact h.lt i k z
      · exact (List.getElem?_eq_some_iff.1 hk).1
    · rcases snoc_get hik with ⟨li, z⟩ | ⟨rfl, rfl⟩
      · rw [told i li]
        exact h.same i k z β d f
      · rw [vt, foldV_at h.idx hk]
  | none =>
    have es : unlStep (U, num) r = (U ++ [m], num ++ [U.length]) := by
      show (match markIx U (mkI r.1 (r.2.map fun (n : Int) => num.getD n.toNat 0)) with | some k => (U, num ++ [k]) | none => (U ++ [mkI r.1 (r.2.map fun (n : Int) => num.getD n.toNat 0)], num ++ [U.length])) = _
      rw [← em, cm]
    rw [es]
    have hm := markIx_none cm
    refine ⟨by rw [List.length_append, List.length_append, h.len]; rfl, fun i k hik => ?_, ?_, h.idx.snoc mlen mrow, by show (U ++ [m]).length ≤ _; rw [List.length_append, List.length_append]; have := h.le; simp; omega, fun i k hik β d f => ?_⟩
    · show k < (U ++ [m]).length
      rw [List.length_append, List.length_singleton]
      rcases snoc_get hik with ⟨_, z⟩ | ⟨_, rfl⟩
      · have := h.lt i k z
        omega
      · omega
    · refine List.nodup_append.2 ⟨h.nd, List.nodup_cons.2 ⟨fun z => (nomatch z), List.nodup_nil⟩, fun x hx y hy => ?_⟩
      rw [List.mem_singleton.1 hy]
      intro z
      rw [z] at hx
      exact hm hx
    · show (foldV d f (U ++ [m]))[k]? = _
      rcases snoc_get hik with ⟨li, z⟩ | ⟨rfl, rfl⟩
      · rw [told i li, foldV_app h.idx m (h.lt i k z)]
        exact h.same i k z β d f
      · rw [vt, foldV_snoc, List.getElem?_append_right (by rw [foldV_len]; exact Nat.le_refl _), foldV_len, Nat.sub_self]
        rfl
theorem Unl.of {t : Tr} (ok : TrIdx t) : ∀ i, i ≤ t.length → Unl (t.take i) (unlF (t.take i)).1 (unlF (t.take i)).2
  | 0, _ => by
    rw [List.take_zero]
    exact ⟨rfl, fun i k h => by simp [unlF] at h, List.nodup_nil, fun i r h => by simp [unlF] at h, Nat.le_refl _, fun i k h => by simp [unlF] at h⟩
  | i + 1, hi => by
    have li : i < t.length := hi
    have er := List.getElem?_eq_getElem li
    have ih := Unl.of ok i (Nat.le_of_lt li)
    rw [unlF_take er]
    rw [take_at er]
    exact ih.step (by rw [← take_at er]; exact ok.take _)
theorem Unl.all {t : Tr} (ok : TrIdx t) : Unl t (unlF t).1 (unlF t).2 := by
  have := Unl.of ok t.length (Nat.le_refl _)
  rw [List.take_length] at this
  exact this
/-! ### unlike rows are unlike trees -/
/-- the size and other values of the plain tree -/
theorem plain_end {t : Tr} (ok : TrIdx t) (h : 0 < t.length) : PlEnd t (plainF t) := by
  obtain ⟨m, h1, h2⟩ := runP_ends ok h
  have inv : ∀ n, PInv t (runP t n) := by
    intro n
    induction n with
    | zero => exact PInv.start h
    | succ n ih =>
      by_cases c : (runP t n).left = []
      · rw [runP_stays c (n + 1) (Nat.le_succ n)]
        exact ih
      · exact (ih.step ok c).1
  rw [← h2]
  exact (inv m).fin h1
theorem runP_inv {t : Tr} (ok : TrIdx t) (h : 0 < t.length) (n : Nat) : PInv t (runP t n) := by
  induction n with
  | zero => exact PInv.start h
  | succ n ih =>
    by_cases c : (runP t n).left = []
    · rw [runP_stays c (n + 1) (Nat.le_succ n)]
      exact ih
    · exact (ih.step ok c).1
/-! ### contracts -/
end Bk
set_option Elab.async false
/-! Bk50: the plain tree by the unlike rows; patterns laid. -/
namespace Bk
open PySem PySem.Spec PyProof.Rows L2
/-! ### the unlike trees up to the whole -/
end Bk
set_option Elab.async false
/-! Bk51: any data compared; patterns laid; what a turned tree is. -/
namespace Bk
open PySem PySem.Spec PyProof.Rows L2
/-! ### any data compared -/
mutual
def D.pd : D → PyData
  | .non => .none | .bl b => .bool b | .int i => .int i | .str s => .str s
  | .tup ds => .tuple (D.pds ds)
  | .lst ds => .list (D.pds ds)
def D.pds : List D → List PyData
  | [] => []
  | d :: ds => d.pd :: D.pds ds
end
mutual
/-- the texts are plain -/
def D.Sig : D → Prop
  | .non => True | .bl _ => True | .int _ => True
  | .str s => ∀ c ∈ s.cps.toList, c < 0x110000
  | .tup ds => D.Sigs ds
  | .lst ds => D.Sigs ds
def D.Sigs : List D → Prop
  | [] => True
  | d :: ds => d.Sig ∧ D.Sigs ds
end
mutual
def D.dep : D → Nat
  | .non => 0 | .bl _ => 0 | .int _ => 0 | .str _ => 0
  | .tup ds => D.deps ds + 1
  | .lst ds => D.deps ds + 1
def D.deps : List D → Nat
  | [] => 0
  | d :: ds => max d.dep (D.deps ds)
end
mutual
theorem D.pd_dep : ∀ d : D, d.pd.depth = d.dep
  | .non => rfl
  | .bl _ => rfl
  | .int _ => rfl
  | .str _ => rfl
  | .tup ds => congrArg (· + 1) (D.pds_dep ds)
  | .lst ds => congrArg (· + 1) (D.pds_dep ds)
theorem D.pds_dep : ∀ ds : List D, PyData.depthAll (D.pds ds) = D.deps ds
  | [] => rfl
  | d :: ds => by
    show max d.pd.depth (PyData.depthAll (D.pds ds)) = max d.dep (D.deps ds)
    rw [D.pd_dep d, D.pds_dep ds]
end
mutual
theorem D.pd_lay : ∀ d : D, d.Sig → d.pd.canLay0 = true
  | .non, _ => rfl
  | .bl _, _ => rfl
  | .int _, _ => rfl
  | .str s, h => by
    show s.cps.all (· < 0x110000) = true
    rw [Array.all_eq_true']
    intro x hx
    exact decide_eq_true (h x (Array.mem_toList_iff.2 hx))
  | .tup ds, h => D.pds_lay ds h
  | .lst ds, h => D.pds_lay ds h
theorem D.pds_lay : ∀ ds : List D, D.Sigs ds → PyData.canLayAll0 (D.pds ds) = true
  | [], _ => rfl
  | d :: ds, h => by
    show (d.pd.canLay0 && PyData.canLayAll0 (D.pds ds)) = true
    rw [D.pd_lay d h.1, D.pds_lay ds h.2]
    rfl
end
mutual
theorem Rep.dp {K : PySem.W.Frag} {H : Hp} : ∀ {d : D} {v : V}, Rep H d v → Dp K H v d.pd
  | .non, v, h => by obtain rfl : v = .non := by simpa only [Rep] using h
                     exact .non
  | .bl b, v, h => by obtain rfl : v = .bl b := by simpa only [Rep] using h
                      exact .bl b
  | .int i, v, h => by obtain rfl : v = .int i := by simpa only [Rep] using h
                       exact .int i
  | .str s, v, h => by obtain rfl : v = .str s := by simpa only [Rep] using h
                       exact .str s
  | .tup ds, v, h => by
    obtain ⟨a, vs, rfl, ha, r⟩ := h
    exact .tup (sqT ha) (Reps.dps r)
  | .lst ds, v, h => by
    obtain ⟨a, vs, rfl, ha, r⟩ := h
    exact .lst (sqL ha) (Reps.dps r)
theorem Reps.dps {K : PySem.W.Frag} {H : Hp} : ∀ {ds : List D} {vs : List V}, Reps H ds vs → DpAll K H vs (D.pds ds)
  | [], vs, h => by
    obtain rfl : vs = [] := by simpa only [Reps] using h
    exact .nil
  | d :: ds, vs, h => by
    obtain ⟨v, r, rfl, hv, hr⟩ := h
    exact .cons (Rep.dp hv) (Reps.dps hr)
end
theorem D.shaped {d : D} (h : d.Sig) (k : d.dep ≤ 64) : SeqAt.shaped d.pd = true := by
  show (d.pd.canLay0 && decide (d.pd.depth ≤ 64)) = true
  rw [D.pd_lay d h, D.pd_dep, decide_eq_true k]
  rfl
theorem sigs_map {α : Type} {f : α → D} {as : List α} (h : ∀ a ∈ as, (f a).Sig) : D.Sigs (as.map f) := by
  induction as with
  | nil => trivial
  | cons a as ih => exact ⟨h a List.mem_cons_self, ih fun b hb => h b (List.mem_cons_of_mem _ hb)⟩
theorem deps_map {α : Type} {f : α → D} {as : List α} {k : Nat} (h : ∀ a ∈ as, (f a).dep ≤ k) : D.deps (as.map f) ≤ k := by
  induction as with
  | nil => exact Nat.zero_le _
  | cons a as ih =>
    show max (f a).dep (D.deps (as.map f)) ≤ k
    have h1 := h a List.mem_cons_self
    have h2 := ih fun b hb => h b (List.mem_cons_of_mem _ hb)
    omega
theorem ints_sig (ns : List Int) : D.Sigs (ns.map D.int) := sigs_map fun _ _ => trivial
theorem ints_dep (ns : List Int) : D.deps (ns.map D.int) ≤ 0 := deps_map fun _ _ => Nat.le_refl 0
/-! ### patterns -/
abbrev PtR := Str × (Int ⊕ List Int)
abbrev Pt := List PtR
abbrev Tn := List Int × List Pt
/-! ### a pattern laid behind rows -/
/-- what a row of a pattern may name -/
def PtSh (np : Nat) (p : Pt) : Prop := ∀ (i : Nat) (r : PtR), p[i]? = some r → (∀ k, r.2 = .inl k → 0 ≤ k ∧ k.toNat < np) ∧ ∀ ns, r.2 = .inr ns → ns.length ≤ 2 ∧ ∀ n ∈ ns, 0 ≤ n ∧ n.toNat < i
theorem trIdx_snoc {t : Tr} {r : Str × List Int} (ok : TrIdx t) (h2 : r.2.length ≤ 2) (h : ∀ n ∈ r.2, 0 ≤ n ∧ n < (t.length : Int)) : TrIdx (t ++ [r]) := fun i q hq => by
  by_cases c : i < t.length
  · rw [List.getElem?_append_left c] at hq
    exact ok i q hq
  · rw [List.getElem?_append_right (by omega)] at hq
    have : i = t.length := by
      have := (List.getElem?_eq_some_iff.1 hq).1
      rw [List.length_singleton] at this
      omega
    subst this
    rw [Nat.sub_self] at hq
    cases hq
    exact ⟨h2, h⟩
/-! ### what it means -/
/-! ### a tree turned -/
def PatFit (b : Nat) (pat : Str → Pt) (t : Tr) : Prop := ∀ row ∈ t, PtSh row.2.length (pat row.1) ∧ 0 < (pat row.1).length ∧ (pat row.1).length ≤ b
end Bk
set_option Elab.async false
/-! Bk52: list.remove of any data; patterns drawn. -/
namespace Bk
open PySem PySem.Spec PyProof.Rows L2
/-! ### list.remove -/
/-! ### patterns and kinds -/
structure PtKs (w : Wd) (pk ks : List Int) (p : Pt) : Prop where
  len : ks.length = p.length
  prt : ∀ (i : Nat) (r : PtR) (k : Int), p[i]? = some r → r.2 = .inl k → r.1 = "part" ∧ 0 ≤ k ∧ k.toNat < pk.length ∧ ks[i]? = pk[k.toNat]?
  mkr : ∀ (i : Nat) (r : PtR) (ns : List Int), p[i]? = some r → r.2 = .inr ns → ∃ e, mkOf w r.1 = some e ∧ ns.length = (dueOf w e).length ∧ ks[i]? = some (e.1 : Int) ∧ ∀ (j : Nat) (n : Int), ns[j]? = some n → 0 ≤ n ∧ n.toNat < i ∧ ks[n.toNat]? = (dueOf w e)[j]?
theorem due_two {w : Wd} (ok : WoodOk w) {e : Nat × Mk} (he : e ∈ tabFrom 0 w) : (dueOf w e).length ≤ 2 := by
  obtain ⟨_, h, h2, _⟩ := dueOf_in ok he
  omega
instance : Inhabited PtR := ⟨("", .inl 0)⟩
theorem PtKs.sh {w : Wd} {pk ks : List Int} {p : Pt} (ok : WoodOk w) (h : PtKs w pk ks p) : PtSh pk.length p := fun i r hr => by
  refine ⟨fun k hk => ?_, fun ns hn => ?_⟩
  · obtain ⟨_, a, b, _⟩ := h.prt i r k hr hk
    exact ⟨a, b⟩
  · obtain ⟨e, h1, h2, _, h4⟩ := h.mkr i r ns hr hn
    refine ⟨by rw [h2]; exact due_two ok (mkOf_some h1).1, fun n hm => ?_⟩
    obtain ⟨j, hj⟩ := List.mem_iff_getElem?.1 hm
    obtain ⟨a, b, _⟩ := h4 j n hj
    exact ⟨a, b⟩
theorem PtKs.nil {w : Wd} {pk : List Int} : PtKs w pk [] [] := ⟨rfl, fun i r k h => by simp at h, fun i r ns h => by simp at h⟩
theorem PtKs.part {w : Wd} {pk ks : List Int} {p : Pt} (h : PtKs w pk ks p) {k kd : Int} (k0 : 0 ≤ k) (k1 : k.toNat < pk.length) (hk : pk[k.toNat]? = some kd) : PtKs w pk (ks ++ [kd]) (p ++ ([(("part" : Str), Sum.inl k)] : Pt)) := by
  have l := h.len
  refine ⟨by rw [List.length_append, List.length_append, l]; rfl, fun i r x hr hx => ?_, fun i r ns hr hn => ?_⟩
  · by_cases c : i < p.length
    · rw [List.getElem?_append_left c] at hr
      rw [List.getElem?_append_left (by omega)]
      exact h.prt i r x hr hx
    · rw [List.getElem?_append_right (by omega)] at hr
      have : i = p.length := by
        have := (List.getElem?_eq_some_iff.1 hr).1
        rw [List.length_singleton] at this
        omega
      subst this
      rw [Nat.sub_self] at hr
      cases hr
      cases hx
      refine ⟨rfl, k0, k1, ?_⟩
      rw [List.getElem?_append_right (by omega), ← l, Nat.sub_self, hk]
      rfl
  · by_cases c : i < p.length
    · rw [List.getElem?_append_left c] at hr
      obtain ⟨e, h1, h2, h3, h4⟩ := h.mkr i r ns hr hn
      refine ⟨e, h1, h2, by rw [List.getElem?_append_left (by omega)]; exact h3, fun j n hj => ?_⟩
      obtain ⟨a, b, d⟩ := h4 j n hj
      exact ⟨a, b, by rw [List.getElem?_append_left (by omega)]; exact d⟩
    · rw [List.getElem?_append_right (by omega)] at hr
      have : i = p.length := by
        have := (List.getElem?_eq_some_iff.1 hr).1
        rw [List.length_singleton] at this
        omega
      subst this
      rw [Nat.sub_self] at hr
      cases hr
      cases hn
theorem PtKs.made {w : Wd} {pk ks : List Int} {p : Pt} (h : PtKs w pk ks p) {e : Nat × Mk} {ns : List Int} (he : mkOf w e.2.1 = some e) (hl : ns.length = (dueOf w e).length) (hn : ∀ (j : Nat) (n : Int), ns[j]? = some n → 0 ≤ n ∧ n.toNat < p.length ∧ ks[n.toNat]? = (dueOf w e)[j]?) : PtKs w pk (ks ++ [(e.1 : Int)]) (p ++ ([(e.2.1, Sum.inr ns)] : Pt)) := by
  have l := h.len
  refine ⟨by rw [List.length_append, List.length_append, l]; rfl, fun i r x hr hx => ?_, fun i r ms hr hm => ?_⟩
  · by_cases c : i < p.length
    · rw [List.getElem?_append_left c] at hr
      rw [List.getElem?_append_left (by omega)]
      exact h.prt i r x hr hx
    · rw [List.getElem?_append_right (by omega)] at hr
      have : i = p.length := by
        have := (List.getElem?_eq_some_iff.1 hr).1
        rw [List.length_singleton] at this
        omega
      subst this
      rw [Nat.sub_self] at hr
      cases hr
      cases hx
  · by_cases c : i < p.length
    · rw [List.getElem?_append_left c] at hr
      obtain ⟨e, h1, h2, h3, h4⟩ := h.mkr i r ms hr hm
      refine ⟨e, h1, h2, by rw [List.getElem?_append_left (by omega)]; exact h3, fun j n hj => ?_⟩
      obtain ⟨a, b, d⟩ := h4 j n hj
      exact ⟨a, b, by rw [List.getElem?_append_left (by omega)]; exact d⟩
    · rw [List.getElem?_append_right (by omega)] at hr
      have : i = p.length := by
        have := (List.getElem?_eq_some_iff.1 hr).1
        rw [List.length_singleton] at this
        omega
      subst this
      rw [Nat.sub_self] at hr
      cases hr
      cases hm
      refine ⟨e, he, hl, ?_, fun j n hj => ?_⟩
      · rw [List.getElem?_append_right (by omega), ← l, Nat.sub_self]
        rfl
      · obtain ⟨a, b, d⟩ := hn j n hj
        exact ⟨a, b, by rw [List.getElem?_append_left (by omega)]; exact d⟩
/-- each row from a on, but the last one, is named by a later one -/
def Used (a b : Nat) (p : Pt) : Prop := ∀ i, a ≤ i → i + 1 < b → ∃ (j : Nat) (r : PtR) (ns : List Int), i < j ∧ j < b ∧ p[j]? = some r ∧ r.2 = .inr ns ∧ (i : Int) ∈ ns
/-! ### rows in another order -/
structure Ord (p : Pt) (ord : List Nat) : Prop where
  nd : ord.Nodup
  lt : ∀ a ∈ ord, a < p.length
  top : ∀ (j a : Nat) (r : PtR) (ns : List Int), ord[j]? = some a → p[a]? = some r → r.2 = .inr ns → ∀ n ∈ ns, n.toNat ∈ ord.take j
theorem idxOf_take {l : List Nat} {a j : Nat} (h : a ∈ l.take j) : l.idxOf a < j ∧ l[l.idxOf a]? = some a ∧ (l.take j).idxOf a = l.idxOf a := by
  have e : l.idxOf a = (l.take j).idxOf a := by
    have := List.idxOf_append (l₁ := l.take j) (l₂ := l.drop j) (a := a)
    rw [List.take_append_drop, if_pos h] at this
    exact this
  have l1 := List.idxOf_lt_length_of_mem h
  have l2 : (l.take j).length ≤ j := by rw [List.length_take]; omega
  have m : a ∈ l := List.mem_of_mem_take h
  exact ⟨by omega, by rw [List.getElem?_eq_getElem (List.idxOf_lt_length_of_mem m), List.getElem_idxOf], e.symm⟩
theorem Ord.snoc {p : Pt} {ord : List Nat} {a : Nat} (h : Ord p ord) (ha : a < p.length) (hn : a ∉ ord) (ht : ∀ (r : PtR) (ns : List Int), p[a]? = some r → r.2 = .inr ns → ∀ n ∈ ns, n.toNat ∈ ord) : Ord p (ord ++ [a]) := by
  refine ⟨List.nodup_append.2 ⟨h.nd, List.nodup_cons.2 ⟨fun z => (nomatch z), List.nodup_nil⟩, fun x hx y hy => ?_⟩, fun x hx => ?_, fun j b r ns hb hr hs n hm => ?_⟩
  · rw [List.mem_singleton.1 hy]
    exact fun z => hn (z ▸ hx)
  · rcases List.mem_append.1 hx with z | z
    · exact h.lt x z
    · rw [List.mem_singleton.1 z]
      exact ha
  · by_cases c : j < ord.length
    · rw [List.getElem?_append_left c] at hb
      rw [List.take_append_of_le_length (by omega)]
      exact h.top j b r ns hb hr hs n hm
    · rw [List.getElem?_append_right (by omega)] at hb
      have : j = ord.length := by
        have := (List.getElem?_eq_some_iff.1 hb).1
        rw [List.length_singleton] at this
        omega
      subst this
      rw [Nat.sub_self] at hb
      cases hb
      rw [List.take_left]
      exact ht r ns hr hs n hm
theorem Ord.all {p : Pt} {ord : List Nat} (h : Ord p ord) (hl : ord.length = p.length) {a : Nat} (ha : a < p.length) : a ∈ ord := by
  by_cases c : a ∈ ord
  · exact c
  · exfalso
    have := nodup_sub2 (a :: ord) (List.range p.length) (List.nodup_cons.2 ⟨c, h.nd⟩) fun x hx => by
      rcases List.mem_cons.1 hx with rfl | z
      · exact List.mem_range.2 ha
      · exact List.mem_range.2 (h.lt x z)
    rw [List.length_cons, List.length_range] at this
    omega
/-- the whole comes last -/
theorem Ord.last {p : Pt} {ord : List Nat} (o : Ord p ord) (hl : ord.length = p.length) (h0 : 0 < p.length) (u : Used 0 p.length p) : ord[p.length - 1]? = some (p.length - 1) := by
  obtain ⟨a, ha⟩ : ∃ a, ord[p.length - 1]? = some a := ⟨_, List.getElem?_eq_getElem (by omega)⟩
  rw [ha]
  have la := o.lt a (List.mem_of_getElem? ha)
  by_cases c : a + 1 < p.length
  · exfalso
    obtain ⟨j, r, ns, h1, h2, h3, h4, h5⟩ := u a (Nat.zero_le _) c
    obtain ⟨q, hq⟩ := List.mem_iff_getElem?.1 (o.all hl h2)
    have lq := (List.getElem?_eq_some_iff.1 hq).1
    have ht := o.top q j r ns hq h3 h4 _ h5
    rw [Int.toNat_natCast] at ht
    obtain ⟨t1, t2, _⟩ := idxOf_take ht
    have e1 := (List.getElem?_eq_some_iff.1 ha)
    have e2 := (List.getElem?_eq_some_iff.1 t2)
    obtain ⟨b1, b2⟩ := e1
    obtain ⟨d1, d2⟩ := e2
    have := (List.getElem_inj o.nd (h₀ := b1) (h₁ := d1)).1 (b2.trans d2.symm)
    omega
  · congr 1
    omega
/-! ### how great a pattern's rows are -/
def szPStep (x : List Nat) (acc : List Nat) (r : PtR) : List Nat := acc ++ [match r.2 with
  | .inl k => x.getD k.toNat 0
  | .inr ns => 1 + (ns.map fun n => acc.getD n.toNat 0).sum]
def szP (x : List Nat) (p : Pt) : List Nat := p.foldl (szPStep x) []
/-- no row of a pattern is greater than all its rows and parts -/
def Slim (np : Nat) (p : Pt) : Prop := ∀ (x : List Nat) (j : Nat), x.length = np → j < p.length → (szP x p).getD j 0 ≤ p.length + x.sum
end Bk
set_option Elab.async false
/-! Bk53: turners drawn, trees turned: contracts. -/
namespace Bk
open PySem PySem.Spec PyProof.Rows L2
/-- each kind has a maker of no parts first -/
def FullW (w : Wd) : Prop := ∀ k ∈ w, ∃ (m : Mk) (r : List Mk), k.2 = m :: r ∧ m.2 = []
theorem FullW.at {w : Wd} (h : FullW w) {g : Nat} (hg : g < w.length) : ∃ e ∈ tabFrom 0 w, e.1 = g ∧ e.2.2 = [] := by
  have ek := List.getElem?_eq_getElem hg
  obtain ⟨m, r, e1, e2⟩ := h w[g] (List.getElem_mem hg)
  refine ⟨(g, m), ?_, rfl, e2⟩
  have := tab_mem w 0 g w[g] m ek (by rw [e1]; exact List.mem_cons_self)
  rw [Nat.zero_add] at this
  exact this
/-- everything but three objects stands -/
def But3 (p l r : Addr) (H H' : Hp) : Prop := ∀ b o, b ≠ p → b ≠ l → b ≠ r → H b = some o → H' b = some o
theorem But3.refl {p l r : Addr} {H : Hp} : But3 p l r H H := fun _ _ _ _ _ h => h
theorem But3.trans {p l r : Addr} {H H1 H2 : Hp} (a : But3 p l r H H1) (b : But3 p l r H1 H2) : But3 p l r H H2 := fun x o h1 h2 h3 h => b x o h1 h2 h3 (a x o h1 h2 h3 h)
theorem But3.at_new {p l r d : Addr} {H H1 : Hp} {o : HO} (e : But3 p l r H H1) (n : H d = none) : But3 p l r H (upd H1 d o) := fun x u h1 h2 h3 h => by rw [upd_ne (ne_of_none h n)]; exact e x u h1 h2 h3 h
/-- three lists: all tuples stand -/
theorem But3.tk {p l r : Addr} {H H1 : Hp} {a b c : List V} (e : But3 p l r H H1) (h1 : H p = some (.lst a)) (h2 : H l = some (.lst b)) (h3 : H r = some (.lst c)) : Tk H H1 := fun x ys z =>
  e x _ (ne_of z h1 (fun y => nomatch y)) (ne_of z h2 (fun y => nomatch y)) (ne_of z h3 (fun y => nomatch y)) z
theorem Box.lst {H : Hp} {p : Addr} (h : Box H p) : ∃ xs, H p = some (.lst xs) := by
  obtain ⟨a, b, c, h⟩ := h
  exact ⟨_, h⟩
structure TnOk (w w2 : Wd) (tn : Tn) : Prop where
  kl : tn.1.length = w.length
  kk : ∀ k ∈ tn.1, 0 ≤ k ∧ k.toNat < w2.length
  tab : tn.2.length = (tabFrom 0 w).length
  pat : ∀ (j : Nat) (e : Nat × Mk) (p : Pt), (tabFrom 0 w)[j]? = some e → tn.2[j]? = some p → 0 < p.length ∧ p.length ≤ 8 ∧ (∃ ks, PtKs w2 ((dueOf w e).map fun n => tn.1.getD n.toNat 0) ks p ∧ ks[p.length - 1]? = tn.1[e.1]?) ∧ Slim (dueOf w e).length p
/-- the pattern of a maker -/
def patP (w : Wd) (ps : List Pt) (s : Str) : Pt := match ((tabFrom 0 w).zip ps).find? (fun x => decide (x.1.2.1 = s)) with
  | some x => x.2
  | none => []
theorem patP_at {w : Wd} {ps : List Pt} (ok : WoodOk w) {j : Nat} {e : Nat × Mk} {x : Pt} (h1 : (tabFrom 0 w)[j]? = some e) (h2 : ps[j]? = some x) : patP w ps e.2.1 = x := by
  have hz := zip_at h1 h2
  have lj := (List.getElem?_eq_some_iff.1 hz).1
  unfold patP
  cases f : ((tabFrom 0 w).zip ps).find? (fun x => decide (x.1.2.1 = e.2.1)) with
  | none =>
    have := List.find?_eq_none.1 f (e, x) (List.mem_of_getElem? hz)
    simp at this
  | some y =>
    have hy := List.find?_some f
    have my := List.mem_of_find?_eq_some f
    obtain ⟨i, hi⟩ := List.mem_iff_getElem?.1 my
    obtain ⟨hi1, hi2⟩ := List.getElem?_zip_eq_some.1 hi
    have ey : y.1.2.1 = e.2.1 := of_decide_eq_true hy
    have nd := ok.nd
    have a1 : ((tabFrom 0 w).map fun e => e.2.1)[i]? = some e.2.1 := by rw [List.getElem?_map, hi1]; exact congrArg some ey
    have a2 : ((tabFrom 0 w).map fun e => e.2.1)[j]? = some e.2.1 := by rw [List.getElem?_map, h1]; rfl
    obtain ⟨b1, b2⟩ := List.getElem?_eq_some_iff.1 a1
    obtain ⟨d1, d2⟩ := List.getElem?_eq_some_iff.1 a2
    have ij : i = j := (List.getElem_inj nd (h₀ := b1) (h₁ := d1)).1 (b2.trans d2.symm)
    subst ij
    rw [h2] at hi2
    cases hi2
    rfl
theorem TnOk.fit {w w2 : Wd} {tn : Tn} (ok : WoodOk w) (ok2 : WoodOk w2) (h : TnOk w w2 tn) {t : Tr} (ht : TrW w t) : PatFit 8 (patP w tn.2) t := fun row hr => by
  obtain ⟨i, hi⟩ := List.mem_iff_getElem?.1 hr
  obtain ⟨j, e, pa⟩ := ht.row i row hi
  have lj := (List.getElem?_eq_some_iff.1 pa.tab).1
  have ep := List.getElem?_eq_getElem (l := tn.2) (i := j) (by have := h.tab; omega)
  obtain ⟨h1, h2, ⟨ks, h3, _⟩, _⟩ := h.pat j e _ pa.tab ep
  have eq := patP_at ok pa.tab ep
  rw [pa.nm] at eq
  rw [eq]
  have sh := h3.sh ok2
  have el : ((dueOf w e).map fun n => tn.1.getD n.toNat 0).length = row.2.length := by
    have := pa.len
    have := (dueOf_in ok (List.mem_of_getElem? pa.tab)).2.1
    rw [List.length_map]
    omega
  rw [el] at sh
  exact ⟨sh, h1, h2⟩
def natV (l : List Nat) : List V := (l.map fun n => ((n : Nat) : Int)).map V.int
end Bk
set_option Elab.async false
/-! Bk54: rows put in another order; things put behind others. -/
namespace Bk
open PySem PySem.Spec PyProof.Rows L2
theorem But3.free {p l r d : Addr} {H H1 : Hp} (e : But3 p l r H H1) {a b c : HO} (hp : H1 p = some a) (hl : H1 l = some b) (hr : H1 r = some c) (n : H1 d = none) : H d = none := by
  cases h : H d with
  | none => rfl
  | some o =>
    have := e d o (fun z => by rw [z, hp] at n; cases n) (fun z => by rw [z, hl] at n; cases n) (fun z => by rw [z, hr] at n; cases n) h
    rw [n] at this
    cases this
end Bk
set_option Elab.async false
/-! Bk55: full woods. -/
namespace Bk
open PySem PySem.Spec PyProof.Rows L2
end Bk
set_option Elab.async false
/-! Bk56: what a turned tree is like. -/
namespace Bk
open PySem PySem.Spec PyProof.Rows L2
/-- the names of the plain tree -/
theorem plain_names {t : Tr} {P : Str → Prop} (ok : TrIdx t) (h0 : 0 < t.length) (h : ∀ r ∈ t, P r.1) : ∀ r ∈ plainF t, P r.1 := fun r hr => by
  obtain ⟨m, h1, h2⟩ := runP_ends ok h0
  have inv := runP_inv ok h0 m
  rw [← h2] at hr
  obtain ⟨k, hk⟩ := List.mem_iff_getElem?.1 hr
  obtain ⟨a, la, e, _⟩ := inv.rowl k r hk
  have ea := List.getElem?_eq_getElem la
  rw [rowAt_eq ea] at e
  rw [e]
  exact h _ (List.getElem_mem la)
theorem sizesM {α : Type} {f : α → D} {k : Nat} : ∀ {as : List α}, (∀ a ∈ as, (f a).size ≤ k) → D.sizes (as.map f) ≤ k * as.length
  | [], _ => Nat.zero_le _
  | a :: as, h => by
    have h1 := h a List.mem_cons_self
    have h2 := sizesM (as := as) fun b hb => h b (List.mem_cons_of_mem _ hb)
    show (f a).size + D.sizes (as.map f) ≤ k * (as.length + 1)
    rw [Nat.mul_succ]
    omega
theorem row_size {r : Str × List Int} (h : r.2.length ≤ 2) : (rowD r).size ≤ 5 := by
  have := sizesM (f := D.int) (k := 1) (as := r.2) fun _ _ => Nat.le_refl _
  show 1 + (1 + ((1 + D.sizes (r.2.map D.int)) + 0)) ≤ 5
  omega
theorem tree_size {t : Tr} (h : TrIdx t) : (treeD t).size ≤ 1 + 5 * t.length := by
  have := sizesM (f := rowD) (k := 5) (as := t) fun r hr => by
    obtain ⟨i, hi⟩ := List.mem_iff_getElem?.1 hr
    exact row_size (h i r hi).1
  show 1 + D.sizes (t.map rowD) ≤ _
  omega
theorem rep_dpok {K : PySem.W.Frag} {H : Hp} {d : D} {v : V} {k : Nat} (h : Rep H d v) (hs : d.Sig) (hd : d.dep ≤ k) : DpOk K H v k := ⟨d.pd, Rep.dp h, D.pd_lay d hs, by rw [D.pd_dep]; exact hd⟩
end Bk
set_option Elab.async false
/-! Bk57: a turned tree is a tree of the second wood, and how great it is. -/
namespace Bk
open PySem PySem.Spec PyProof.Rows L2
theorem snoc_at {α : Type} {l : List α} {x y : α} {i : Nat} (h : (l ++ [x])[i]? = some y) : (i < l.length ∧ l[i]? = some y) ∨ (i = l.length ∧ x = y) := by
  by_cases c : i < l.length
  · rw [List.getElem?_append_left c] at h
    exact .inl ⟨c, h⟩
  · rw [List.getElem?_append_right (by omega)] at h
    have : i = l.length := by
      have := (List.getElem?_eq_some_iff.1 h).1
      rw [List.length_singleton] at this
      omega
    subst this
    rw [Nat.sub_self] at h
    cases h
    exact .inr ⟨rfl, rfl⟩
theorem TrW.snoc {w : Wd} {t : Tr} {row : Str × List Int} {e : Nat × Mk} (h : TrW w t) (ok : WoodOk w) (he : mkOf w row.1 = some e) (hl : row.2.length = (dueOf w e).length) (hn : ∀ (u : Nat) (n : Int), row.2[u]? = some n → 0 ≤ n ∧ n < (t.length : Int) ∧ (dueOf w e)[u]? = some (kindAt w (rowAt t n.toNat).1)) : TrW w (t ++ [row]) := by
  have two := due_two ok (mkOf_some he).1
  refine ⟨trIdx_snoc h.idx (by omega) fun n hm => ?_, fun i r hi => ?_⟩
  · obtain ⟨u, hu⟩ := List.mem_iff_getElem?.1 hm
    obtain ⟨a, b, _⟩ := hn u n hu
    exact ⟨a, b⟩
  · rcases snoc_at hi with ⟨li, hi'⟩ | ⟨rfl, rfl⟩
    · obtain ⟨j, e, pa⟩ := h.row i r hi'
      refine ⟨j, e, pa.tab, pa.nm, pa.len, pa.two, fun u n hu => ?_, pa.kind⟩
      obtain ⟨a, b, q, hq, hd⟩ := pa.idx u n hu
      exact ⟨a, b, q, by rw [List.getElem?_append_left (by omega)]; exact hq, hd⟩
    · obtain ⟨m1, m2⟩ := mkOf_some he
      obtain ⟨j, hj⟩ := List.mem_iff_getElem?.1 m1
      refine ⟨j, e, hj, m2, hl, by omega, fun u n hu => ?_, by unfold kindAt; rw [he]⟩
      obtain ⟨a, b, c⟩ := hn u n hu
      have en := List.getElem?_eq_getElem (l := t) (i := n.toNat) (by omega)
      rw [rowAt_eq en] at c
      exact ⟨a, b, t[n.toNat], by rw [List.getElem?_append_left (by omega)]; exact en, c⟩
end Bk
set_option Elab.async false
/-! Bk58: printers behind turners. -/
namespace Bk
open PySem PySem.Spec PyProof.Rows L2
/-! ### values of trees as such -/
section
variable {β : Type}
mutual
def evT (f : Str → List β → β) : PT → β
  | .node s ps => f s (evL f ps)
def evL (f : Str → List β → β) : List PT → List β
  | [] => []
  | p :: ps => evT f p :: evL f ps
end
theorem evL_map (f : Str → List β → β) : ∀ ps : List PT, evL f ps = ps.map (evT f)
  | [] => by rw [evL]; rfl
  | p :: ps => by rw [evL, evL_map f ps]; rfl
theorem evT_node (f : Str → List β → β) (s : Str) (ps : List PT) : evT f (.node s ps) = f s (ps.map (evT f)) := by rw [evT, evL_map]
end
/-! ### texts put together -/
end Bk
set_option Elab.async false
/-! Bk59: what a printer behind a turner is, and what it prints. -/
namespace Bk
open PySem PySem.Spec PyProof.Rows L2
/-! ### what it prints -/
end Bk
set_option Elab.async false
/-! Bk60: the printer behind fits; contracts. -/
namespace Bk
open PySem PySem.Spec PyProof.Rows L2
def wtI : Itm → Nat
  | .inl s => s.length + 1
  | .inr _ => 1
def wt (r : List Itm) : Nat := (r.map wtI).sum
/-! ### a printer's rows -/
end Bk
set_option Elab.async false
/-! Bk61: printers behind turners: contracts, lists told anew. -/
namespace Bk
open PySem PySem.Spec PyProof.Rows L2
/-! ### o[i] += text -/
/-! ### what stands on no older list -/
/-- from later lists to older ones -/
def Ls (H0 H : Hp) : Prop := ∀ a xs, H0 a = some (.lst xs) → ∃ ys, H a = some (.lst ys)
theorem Ls.ex {H0 H : Hp} (e : Ex H0 H) : Ls H0 H := fun a xs h => ⟨xs, e _ _ h⟩
theorem Ls.trans {H0 H1 H2 : Hp} (a : Ls H0 H1) (b : Ls H1 H2) : Ls H0 H2 := fun x xs h => by
  obtain ⟨ys, h1⟩ := a x xs h
  exact b x ys h1
/-! ### a comprehension whose items may be new lists -/
/-! ### rows as lists -/
/-! ### signs -/
/-! ### contracts -/
end Bk
set_option Elab.async false
/-! Bk62: how many rows a pattern's printers have. -/
namespace Bk
open PySem PySem.Spec PyProof.Rows L2
theorem Reps.one {H : Hp} {d : D} {v : V} (h : Rep H d v) : Reps H [d] [v] := ⟨v, [], rfl, h, by simp only [Reps]⟩
end Bk
set_option Elab.async false
/-! Bk63: how great a printer behind is. -/
namespace Bk
open PySem PySem.Spec PyProof.Rows L2
end Bk
set_option Elab.async false
/-! Bk64: sum(.., start=k), max(.., default=k). -/
namespace Bk
open PySem PySem.Spec PyProof.Rows L2
def maxF (k : Int) : List Int → Int
  | [] => k
  | n :: r => r.foldl max n
def tMaxD (K : PySem.W.Frag) (k : Int) (ta : TA) : TE := fun σ H Q => ta σ H fun vs H1 => ∃ (a : Addr) (ns : List Int), vs = [.ref a] ∧ SqL K H1 a (ns.map V.int) ∧ Q (.int (maxF k ns)) H1
theorem pds_ints : ∀ ns : List Int, D.pds (ns.map D.int) = ns.map PyData.int
  | [] => rfl
  | n :: ns => congrArg (PyData.int n :: ·) (pds_ints ns)
theorem reps_ints (H : Hp) : ∀ ns : List Int, Reps H (ns.map D.int) (ns.map V.int)
  | [] => by simp only [List.map, Reps]
  | n :: ns => ⟨_, _, rfl, by simp only [Rep], reps_ints H ns⟩
theorem depth_ints : ∀ ns : List Int, PyData.depthAll (ns.map PyData.int) = 0
  | [] => rfl
  | n :: ns => by
    show max 0 (PyData.depthAll (ns.map PyData.int)) = 0
    rw [depth_ints ns]
    rfl
theorem pe_maxD {X : Cx} {e e3 : Expr} {ta : TA} {p pos kp : Pos} {k : Int} (hu : X.A.units + 64 < cLine) (hc : X.calm = true) (hg : Gl X "max") (hm : X.mg "max" = none) (ha : PA X [e] ta) (h3 : PE X e3 (tC (.int k)))
    (hs : starEach [e] X.env = (false, eval e X.env) :: starEach [] X.env := by rfl) (hpl : (backTo pos (starEach [e] X.env)).any (·.1) = false := by rfl) :
    PE X (.Call (.Name "max" p) [e] [⟨some "default", e3, kp⟩] pos) (tMaxD X.K k ta) := by
  refine ⟨fun pins s σ H Q I h => ?_⟩
  refine wpAny_Call_Name_kw (ld_blt I hg hm PyProof.Rows.boot_max ?_)
  refine callWith_builtin_kwB hpl rfl ?_
  have hx := ha.run pos pins s σ H _ I h
  rw [hs] at hx ⊢
  refine evalArgs_kwB rfl (thn hx fun us s1 ⟨vs, H1, I1, r1, q1⟩ => ?_)
  refine kws_cons (thn (h3.run pins s1 σ H1 (fun v H2 => v = .int k ∧ H2 = H1) I1 ⟨rfl, rfl⟩) fun u3 s2 q3 => kws_nil ?_)
  obtain ⟨v3, H2, I2, r3, rfl, rfl⟩ := q3
  obtain ⟨tk, rfl⟩ := r3
  obtain ⟨a, ns, rfl, hq, q⟩ := q1
  obtain ⟨its, rv, hl, _⟩ := I2.list hq
  rw [Vals.ref1 r1]
  have hds : Reps H2 (ns.map D.int) (ns.map V.int) := reps_ints H2 ns
  obtain ⟨as, ra⟩ := Dp.readsAll I2 _ _ _ (Reps.dps (K := X.K) hds) rv
  rw [pds_ints] at ra
  refine W.max_list_default (I2.ok.hd hc) hl.isList (vs := its.toArray) (by simpa using ra) ⟨fun x hx y hy => ?_, fun x hx => ?_⟩ (by rw [depth_ints]; omega) (fun h0 h' tk2 hk => ?_) fun y ys i v h' tk2 bs hy hv rd hk => ?_
  · obtain ⟨n, _, rfl⟩ := List.mem_map.1 hx
    obtain ⟨m, _, rfl⟩ := List.mem_map.1 hy
    rfl
  · obtain ⟨n, _, rfl⟩ := List.mem_map.1 hx
    exact fun z => nomatch z
  · obtain rfl : ns = [] := List.map_eq_nil_iff.1 h0
    exact ⟨.int _, _, I2.kept hk, ⟨_, rfl⟩, q⟩
  · cases ns with
    | nil => cases hy
    | cons n r =>
      rw [List.map_cons] at hy
      cases hy
      rw [W.maxD_ints] at rd
      cases rd
      exact ⟨.int _, _, I2.kept hk, ⟨_, rfl⟩, q⟩
end Bk
set_option Elab.async false
/-! Bk65: heights, sizes, the plain tree by an order of the unlike rows. -/
namespace Bk
open PySem PySem.Spec PyProof.Rows L2
def plT (p : PT) : Tr := (goT p []).1
theorem plainF_eq (t : Tr) : plainF t = plT (trA t (t.length - 1)) := rfl
theorem trA_take {t : Tr} {k a : Nat} (hk : k ≤ t.length) (ha : a < k) : trA (t.take k) a = trA t a := by
  unfold trA trP
  rw [List.getD_eq_getElem?_getD, List.getD_eq_getElem?_getD, ← foldV_pre k hk, List.getElem?_take, if_pos ha]
/-! ### heights -/
/-! ### an order of rows, each behind its parts -/
structure OrdOk (U : Tr) (ord : List Nat) : Prop where
  nd : ord.Nodup
  lt : ∀ a ∈ ord, a < U.length
  cl : ∀ (a : Nat), a ∈ ord → ∀ n ∈ (rowAt U a).2, n.toNat ∈ ord
def rowO (U : Tr) (ord : List Nat) (a : Nat) : Mark := mkI (rowAt U a).1 ((rowAt U a).2.map fun n => ord.idxOf n.toNat)
def rowsO (U : Tr) (ord : List Nat) : Tr := ord.map (rowO U ord)
theorem OrdOk.nil (U : Tr) : OrdOk U [] := ⟨List.nodup_nil, fun a z => (nomatch z), fun a z => (nomatch z)⟩
theorem OrdOk.snoc {U : Tr} {ord : List Nat} (h : OrdOk U ord) {a : Nat} (la : a < U.length) (na : a ∉ ord) (hp : ∀ n ∈ (rowAt U a).2, n.toNat ∈ ord) : OrdOk U (ord ++ [a]) := by
  refine ⟨List.nodup_append.2 ⟨h.nd, List.nodup_cons.2 ⟨fun z => (nomatch z), List.nodup_nil⟩, fun x hx y hy => ?_⟩, fun b hb => ?_, fun b hb n hn => ?_⟩
  · rw [List.mem_singleton.1 hy]
    exact fun z => na (z ▸ hx)
  · rcases List.mem_append.1 hb with z | z
    · exact h.lt b z
    · rw [List.mem_singleton.1 z]
      exact la
  · rcases List.mem_append.1 hb with z | z
    · exact List.mem_append_left _ (h.cl b z n hn)
    · rw [List.mem_singleton.1 z] at hn
      exact List.mem_append_left _ (hp n hn)
theorem rowO_snoc {U : Tr} {ord : List Nat} {a b : Nat} (hp : ∀ n ∈ (rowAt U b).2, n.toNat ∈ ord) : rowO U (ord ++ [a]) b = rowO U ord b := by
  unfold rowO
  congr 1
  refine List.map_congr_left fun n hn => ?_
  rw [List.idxOf_append, if_pos (hp n hn)]
theorem rowsO_snoc {U : Tr} {ord : List Nat} (h : OrdOk U ord) {a : Nat} (hp : ∀ n ∈ (rowAt U a).2, n.toNat ∈ ord) : rowsO U (ord ++ [a]) = rowsO U ord ++ [rowO U ord a] := by
  unfold rowsO
  rw [List.map_append, List.map_singleton, rowO_snoc hp]
  congr 1
  exact List.map_congr_left fun b hb => rowO_snoc (h.cl b hb)
theorem idx_inj {ord : List Nat} {x y : Nat} (hx : x ∈ ord) (hy : y ∈ ord) (h : ord.idxOf x = ord.idxOf y) : x = y := by
  have a := List.getElem_idxOf (List.idxOf_lt_length_iff.2 hx)
  have b := List.getElem_idxOf (List.idxOf_lt_length_iff.2 hy)
  rw [← a, ← b]
  congr 1
theorem mk_inj {U : Tr} {ord : List Nat} {a b : Nat} (ix : TrIdx U) (nd : U.Nodup) (la : a < U.length) (lb : b < U.length) (ha : ∀ n ∈ (rowAt U a).2, n.toNat ∈ ord) (hb : ∀ n ∈ (rowAt U b).2, n.toNat ∈ ord) (h : rowO U ord a = rowO U ord b) : a = b := by
  have ea := List.getElem?_eq_getElem la
  have eb := List.getElem?_eq_getElem lb
  have ra := rowAt_eq ea
  have rb := rowAt_eq eb
  unfold rowO mkI at h
  have h1 := congrArg Prod.fst h
  have h2 := congrArg Prod.snd h
  replace h1 : (rowAt U a).1 = (rowAt U b).1 := h1
  replace h2 : ((rowAt U a).2.map fun n => ord.idxOf n.toNat).map (fun n => ((n : Nat) : Int)) = ((rowAt U b).2.map fun n => ord.idxOf n.toNat).map fun n => ((n : Nat) : Int) := h2
  rw [List.map_map, List.map_map] at h2
  have key : ∀ (l m : List Int), (∀ n ∈ l, 0 ≤ n ∧ n.toNat ∈ ord) → (∀ n ∈ m, 0 ≤ n ∧ n.toNat ∈ ord) → l.map ((fun n => ((n : Nat) : Int)) ∘ fun n => ord.idxOf n.toNat) = m.map ((fun n => ((n : Nat) : Int)) ∘ fun n => ord.idxOf n.toNat) → l = m := fun l => by
    induction l with
    | nil =>
      intro m _ _ e
      cases m with
      | nil => rfl
      | cons y m => cases e
    | cons x l ih =>
      intro m hl hm e
      cases m with
      | nil => cases e
      | cons y m =>
        rw [List.map_cons, List.map_cons] at e
        injection e with e1 e2
        replace e1 : ((ord.idxOf x.toNat : Nat) : Int) = (ord.idxOf y.toNat : Nat) := e1
        obtain ⟨x0, xm⟩ := hl x List.mem_cons_self
        obtain ⟨y0, ym⟩ := hm y List.mem_cons_self
        have z := idx_inj xm ym (by omega)
        have e3 : x = y := by omega
        rw [e3, ih m (fun n hn => hl n (List.mem_cons_of_mem _ hn)) (fun n hn => hm n (List.mem_cons_of_mem _ hn)) e2]
  have h3 := key _ _ (fun n hn => ⟨by rw [ra] at hn; exact ((ix a _ ea).2 n hn).1, ha n hn⟩) (fun n hn => ⟨by rw [rb] at hn; exact ((ix b _ eb).2 n hn).1, hb n hn⟩) h2
  rw [ra, rb] at h1 h3
  have e : U[a] = U[b] := Prod.ext h1 h3
  exact (List.getElem_inj nd).1 e
theorem AtL_map {R : Tr} {f : Int → PT} {g : Int → Nat} : ∀ {ns : List Int}, (∀ n ∈ ns, AtT R (f n) (g n)) → AtL R (ns.map f) (ns.map g)
  | [], _ => by
    unfold AtL
    rw [List.map_nil, List.map_nil, goL_nil]
  | n :: ns, h => AtL.mk (h n List.mem_cons_self) (AtL_map fun m hm => h m (List.mem_cons_of_mem _ hm))
theorem ord_there {U : Tr} {ord : List Nat} (ix : TrIdx U) (nd : U.Nodup) (h : OrdOk U ord) : ∀ (b a : Nat), a < b → a ∈ ord → AtT (rowsO U ord) (trA U a) (ord.idxOf a)
  | 0, a, hb, _ => absurd hb (Nat.not_lt_zero _)
  | b + 1, a, hb, ha => by
    have la := h.lt a ha
    have ea := List.getElem?_eq_getElem la
    have ra := rowAt_eq ea
    rw [trA_at ix ea]
    refine AtT.mk (ks := (U[a]).2.map fun n => ord.idxOf n.toNat) (AtL_map (f := fun n => trA U n.toNat) (g := fun n => ord.idxOf n.toNat) fun n hn => ?_) ?_
    · have := (ix a _ ea).2 n hn
      exact ord_there ix nd h b n.toNat (by omega) (h.cl a ha n (by rw [ra]; exact hn))
    · have e : mkI (U[a]).1 ((U[a]).2.map fun n => ord.idxOf n.toNat) = rowO U ord a := by
        unfold rowO
        rw [ra]
      rw [e]
      have li := List.idxOf_lt_length_iff.2 ha
      unfold markIx
      rw [List.findIdx?_eq_some_iff_getElem]
      refine ⟨by unfold rowsO; rw [List.length_map]; exact li, ?_, fun j hj => ?_⟩
      · unfold rowsO
        rw [List.getElem_map, List.getElem_idxOf li]
        exact decide_eq_true rfl
      · have lj : j < ord.length := by omega
        unfold rowsO
        rw [List.getElem_map]
        intro z
        have z2 := of_decide_eq_true z
        have mj := List.getElem_mem lj
        have e2 := mk_inj ix nd (h.lt _ mj) la (h.cl _ mj) (h.cl _ ha) z2
        have l3 := List.idxOf_lt_length_iff.2 mj
        have e3 := List.getElem_idxOf l3
        have := (List.getElem_inj h.nd (h₀ := l3) (h₁ := lj)).1 e3
        rw [e2] at this
        omega
theorem ord_new {U : Tr} {ord : List Nat} (ix : TrIdx U) (nd : U.Nodup) (h : OrdOk U ord) {a : Nat} (la : a < U.length) (na : a ∉ ord) (hp : ∀ n ∈ (rowAt U a).2, n.toNat ∈ ord) : (goT (trA U a) (rowsO U ord)).1 = rowsO U (ord ++ [a]) := by
  have ea := List.getElem?_eq_getElem la
  have ra := rowAt_eq ea
  have aL := AtL_map (R := rowsO U ord) (f := fun n => trA U n.toNat) (g := fun n => ord.idxOf n.toNat) (ns := (U[a]).2) fun n hn => ord_there ix nd h (n.toNat + 1) n.toNat (Nat.lt_succ_self _) (hp n (by rw [ra]; exact hn))
  unfold AtL at aL
  have e : mkI (U[a]).1 ((U[a]).2.map fun n => ord.idxOf n.toNat) = rowO U ord a := by
    unfold rowO
    rw [ra]
  rw [trA_at ix ea, goT_node, aL, e]
  have none : markIx (rowsO U ord) (rowO U ord a) = none := by
    cases c : markIx (rowsO U ord) (rowO U ord a) with
    | none => rfl
    | some k =>
      have hk := markIx_some c
      unfold rowsO at hk
      rw [List.getElem?_map] at hk
      cases eo : ord[k]? with
      | none => rw [eo] at hk; cases hk
      | some b =>
        rw [eo] at hk
        have mb := List.mem_of_getElem? eo
        have := mk_inj ix nd (h.lt b mb) la (h.cl b mb) hp (Option.some.inj hk)
        exact absurd (this ▸ mb) na
  rw [none, rowsO_snoc h hp]
theorem goL_open {pre post : List PT} {q : PT} : ∀ {R : Tr} {ks : List Nat}, AtL R pre ks → goL (pre ++ q :: post) R = goL (pre ++ q :: post) (goT q R).1 := by
  induction pre with
  | nil =>
    intro R ks _
    have g := go_at q R
    unfold AtT at g
    rw [List.nil_append, goL_cons, goL_cons, g]
  | cons p pre ih =>
    intro R ks h
    obtain ⟨k, ks', _, h1, h2⟩ := h.inv
    obtain ⟨e, he⟩ := goT_ext q R
    have h1' : AtT (goT q R).1 p k := by rw [he]; exact AtT.app p e h1
    unfold AtT at h1 h1'
    rw [List.cons_append, goL_cons, goL_cons, h1, h1']
    show ((goL (pre ++ q :: post) R).1, k :: (goL (pre ++ q :: post) R).2) = ((goL (pre ++ q :: post) (goT q R).1).1, k :: _)
    rw [ih h2]
theorem ord_open {U : Tr} {ord : List Nat} (ix : TrIdx U) (nd : U.Nodup) (h : OrdOk U ord) {a : Nat} (la : a < U.length) {pre post : List Int} {p : Int} (e : (rowAt U a).2 = pre ++ p :: post) (hp : ∀ n ∈ pre, n.toNat ∈ ord) : (goT (trA U a) (rowsO U ord)).1 = (goT (trA U a) (goT (trA U p.toNat) (rowsO U ord)).1).1 := by
  have ea := List.getElem?_eq_getElem la
  have ra := rowAt_eq ea
  rw [trA_at ix ea]
  rw [ra] at e
  have aL := AtL_map (R := rowsO U ord) (f := fun n => trA U n.toNat) (g := fun n => ord.idxOf n.toNat) (ns := pre) fun n hn => ord_there ix nd h (n.toNat + 1) n.toNat (Nat.lt_succ_self _) (hp n hn)
  have z := goL_open (q := trA U p.toNat) (post := post.map fun n => trA U n.toNat) aL
  rw [goT_node, goT_node, e, List.map_append, List.map_cons, z]
def finO (U : Tr) (S : List Nat) (R : Tr) : Tr := S.foldl (fun R a => (goT (trA U a) R).1) R
end Bk
set_option Elab.async false
/-! Bk66: heights, sizes, parts of trees, trees made of parts, copied: contracts. -/
namespace Bk
open PySem PySem.Spec PyProof.Rows L2
theorem g_maxD {K : PySem.W.Frag} {k : Int} {ta : TA} {σ : L2.St} {H : Hp} {Q : VK} (h : ta σ H fun vs H1 => ∃ (a : Addr) (ns : List Int), vs = [.ref a] ∧ SqL K H1 a (ns.map V.int) ∧ Q (.int (maxF k ns)) H1) : tMaxD K k ta σ H Q := h
end Bk
set_option Elab.async false
/-! Bk67: trees laid behind one another, trees copied. -/
namespace Bk
open PySem PySem.Spec PyProof.Rows L2
theorem trA_app {R e : Tr} (h : TrIdx (R ++ e)) {a : Nat} (ha : a < R.length) : trA (R ++ e) a = trA R a := by
  have := trA_take (t := R ++ e) (k := R.length) (by rw [List.length_append]; omega) ha
  rw [List.take_left] at this
  exact this.symm
/-! ### places of copies -/
structure PlI (H : Hp) (ps : List Addr) (pl : List (List Nat)) : Prop where
  len : ps.length = pl.length
  nd : ps.Nodup
  at_ : ∀ (q : Nat) (a : Addr) (l : List Nat), ps[q]? = some a → pl[q]? = some l → H a = some (.lst (natV l))
theorem PlI.keep {H H' : Hp} {ps : List Addr} {pl : List (List Nat)} (h : PlI H ps pl) (k : ∀ a ∈ ps, ∀ us, H a = some (.lst us) → H' a = some (.lst us)) : PlI H' ps pl := ⟨h.len, h.nd, fun q a l ha hl => k a (List.mem_of_getElem? ha) _ (h.at_ q a l ha hl)⟩
theorem PlI.snoc {H : Hp} {ps : List Addr} {pl : List (List Nat)} {a : Addr} {l : List Nat} (h : PlI H ps pl) (na : a ∉ ps) (ha : H a = some (.lst (natV l))) : PlI H (ps ++ [a]) (pl ++ [l]) := by
  refine ⟨by rw [List.length_append, List.length_append, h.len]; rfl, List.nodup_append.2 ⟨h.nd, List.nodup_cons.2 ⟨fun z => (nomatch z), List.nodup_nil⟩, fun x hx y hy => ?_⟩, fun q b m hb hm => ?_⟩
  · rw [List.mem_singleton.1 hy]
    exact fun z => na (z ▸ hx)
  · have hl := h.len
    rcases snoc_at hb with ⟨lb, hb'⟩ | ⟨rfl, rfl⟩
    · rw [List.getElem?_append_left (by omega)] at hm
      exact h.at_ q b m hb' hm
    · rw [List.getElem?_append_right (by omega), show ps.length - pl.length = 0 by omega] at hm
      cases hm
      exact ha
/-- each row's places are rows that are the same tree -/
structure CpOk (t s : Tr) (pl : List (List Nat)) : Prop where
  idx : TrIdx s
  at_ : ∀ (j : Nat) (l : List Nat), pl[j]? = some l → ∀ k ∈ l, k < s.length ∧ trA s k = trA t j
  name : ∀ r ∈ s, ∃ q ∈ t, r.1 = q.1
  all : ∀ k, k < s.length → ∃ i, i < t.length ∧ trA s k = trA t i
theorem CpOk.add {t s : Tr} {pl : List (List Nat)} {cur : List Nat} {i : Nat} {r : Str × List Int} {ks : List Nat} (ht : TrIdx t) (h : CpOk t s (pl ++ [cur])) (lp : pl.length = i) (hr : t[i]? = some r) (lk : ks.length = r.2.length)
    (hk : ∀ (u k : Nat) (n : Int), ks[u]? = some k → r.2[u]? = some n → ∃ l, pl[n.toNat]? = some l ∧ k ∈ l) : CpOk t (s ++ [mkI r.1 ks]) (pl ++ [cur ++ [s.length]]) ∧ trA (s ++ [mkI r.1 ks]) s.length = trA t i := by
  have rix := ht i r hr
  have lt : ∀ k ∈ ks, k < s.length := fun k hk' => by
    obtain ⟨u, hu⟩ := List.mem_iff_getElem?.1 hk'
    obtain ⟨n, en⟩ : ∃ n, r.2[u]? = some n := ⟨_, List.getElem?_eq_getElem (by have := (List.getElem?_eq_some_iff.1 hu).1; omega)⟩
    obtain ⟨l, hl, hm⟩ := hk u k n hu en
    have ll := (List.getElem?_eq_some_iff.1 hl).1
    exact (h.at_ n.toNat l (by rw [List.getElem?_append_left ll]; exact hl) k hm).1
  have ix : TrIdx (s ++ [mkI r.1 ks]) := by
    refine h.idx.snoc (by show (ks.map _).length ≤ 2; rw [List.length_map, lk]; exact rix.1) fun n hn => ?_
    obtain ⟨k, hk', rfl⟩ := List.mem_map.1 (show n ∈ ks.map fun n => ((n : Nat) : Int) from hn)
    have := lt k hk'
    omega
  have top : trA (s ++ [mkI r.1 ks]) s.length = trA t i := by
    have er : (s ++ [mkI r.1 ks])[s.length]? = some (mkI r.1 ks) := by rw [List.getElem?_append_right (Nat.le_refl _), Nat.sub_self]; rfl
    rw [trA_at ix er, trA_at ht hr]
    congr 1
    show ((ks.map fun n => ((n : Nat) : Int)).map fun n => trA (s ++ [mkI r.1 ks]) n.toNat) = _
    rw [List.map_map]
    refine List.ext_getElem? fun u => ?_
    rw [List.getElem?_map, List.getElem?_map]
    by_cases c : u < ks.length
    · have ek := List.getElem?_eq_getElem c
      have en := List.getElem?_eq_getElem (l := r.2) (i := u) (by omega)
      obtain ⟨l, hl, hm⟩ := hk u _ _ ek en
      have ll := (List.getElem?_eq_some_iff.1 hl).1
      obtain ⟨a, b⟩ := h.at_ _ l (by rw [List.getElem?_append_left ll]; exact hl) _ hm
      rw [ek, en]
      show some (trA (s ++ [mkI r.1 ks]) ((ks[u] : Nat) : Int).toNat) = some (trA t _)
      rw [Int.toNat_natCast, trA_app ix a, b]
    · rw [List.getElem?_eq_none (by omega), List.getElem?_eq_none (by omega)]
      rfl
  have li : i < t.length := (List.getElem?_eq_some_iff.1 hr).1
  refine ⟨⟨ix, fun j l hj k hk' => ?_, fun q hq => ?_, fun k hk' => ?_⟩, top⟩
  · rcases snoc_at hj with ⟨lj, hj'⟩ | ⟨rfl, rfl⟩
    · obtain ⟨a, b⟩ := h.at_ j l (by rw [List.getElem?_append_left lj]; exact hj') k hk'
      exact ⟨by rw [List.length_append]; omega, by rw [trA_app ix a]; exact b⟩
    · rcases List.mem_append.1 hk' with z | z
      · obtain ⟨a, b⟩ := h.at_ pl.length cur (by rw [List.getElem?_append_right (Nat.le_refl _), Nat.sub_self]; rfl) k z
        exact ⟨by rw [List.length_append]; omega, by rw [trA_app ix a]; exact b⟩
      · rw [List.mem_singleton.1 z, lp]
        exact ⟨by rw [List.length_append, List.length_singleton]; omega, top⟩
  · rcases List.mem_append.1 hq with z | z
    · exact h.name q z
    · rw [List.mem_singleton.1 z]
      exact ⟨r, List.mem_of_getElem? hr, rfl⟩
  · rw [List.length_append, List.length_singleton] at hk'
    by_cases c : k < s.length
    · obtain ⟨i', h1, h2⟩ := h.all k c
      exact ⟨i', h1, by rw [trA_app ix c]; exact h2⟩
    · obtain rfl : k = s.length := by omega
      exact ⟨i, li, top⟩
end Bk
set_option Elab.async false
/-! Bk68: rows looked for in lists of rows; the order of the law's plain tree. -/
namespace Bk
open PySem PySem.Spec PyProof.Rows L2
/-! ### lengths -/
theorem ones_sum (l : List Nat) : (l.map fun _ => 1).sum = l.length := by
  induction l with
  | nil => rfl
  | cons a l ih => rw [List.map_cons, List.sum_cons, ih, List.length_cons]; omega
theorem OrdOk.le {U : Tr} {ord : List Nat} (h : OrdOk U ord) : ord.length ≤ U.length := by
  have := sub_sum (fun _ => 1) ord (List.range U.length) h.nd fun b hb => List.mem_range.2 (h.lt b hb)
  rw [ones_sum, ones_sum, List.length_range] at this
  exact this
theorem up_len {n : Nat} : ∀ (S : List Nat) (lo : Nat), S.Pairwise (· < ·) → (∀ x ∈ S, lo ≤ x ∧ x < n) → S = [] ∨ S.length + lo ≤ n
  | [], _, _, _ => .inl rfl
  | a :: S, lo, hp, h => by
    obtain ⟨h1, h2⟩ := List.pairwise_cons.1 hp
    obtain ⟨a1, a2⟩ := h a List.mem_cons_self
    refine .inr ?_
    rcases up_len S (a + 1) h2 (fun x hx => ⟨h1 x hx, (h x (List.mem_cons_of_mem _ hx)).2⟩) with rfl | z
    · show 0 + 1 + lo ≤ n
      omega
    · rw [List.length_cons]
      omega
/-- the state of the law's plain walk -/
structure OSt (U : Tr) (k : Nat) (ord S : List Nat) : Prop where
  ok : OrdOk U ord
  up : S.Pairwise (· < ·)
  st : ∀ a ∈ S, a < U.length ∧ a ∉ ord
  fin : finO U S (rowsO U ord) = plT (trA U k)
theorem OSt.start {U : Tr} {k : Nat} (h : k < U.length) : OSt U k [] [k] := ⟨OrdOk.nil U, List.pairwise_singleton _ _, fun a ha => by rw [List.mem_singleton.1 ha]; exact ⟨h, fun z => nomatch z⟩, rfl⟩
theorem OSt.len {U : Tr} {k : Nat} {ord S : List Nat} (h : OSt U k ord S) : S.length ≤ U.length := by
  rcases up_len (n := U.length) S 0 h.up fun x hx => ⟨Nat.zero_le _, (h.st x hx).1⟩ with rfl | z
  · exact Nat.zero_le _
  · omega
theorem OSt.push {U : Tr} {k a : Nat} {ord S : List Nat} (ix : TrIdx U) (nd : U.Nodup) (h : OSt U k ord (a :: S)) {pre post : List Int} {p : Int} (e : (rowAt U a).2 = pre ++ p :: post) (hp : ∀ n ∈ pre, n.toNat ∈ ord) (np : p.toNat ∉ ord) : OSt U k ord (p.toNat :: a :: S) := by
  obtain ⟨la, _⟩ := h.st a List.mem_cons_self
  have ea := List.getElem?_eq_getElem la
  have lp : p.toNat < a := by
    have := (ix a _ ea).2 p (by rw [← rowAt_eq ea, e]; exact List.mem_append_right _ List.mem_cons_self)
    omega
  refine ⟨h.ok, List.pairwise_cons.2 ⟨fun x hx => ?_, h.up⟩, fun x hx => ?_, ?_⟩
  · rcases List.mem_cons.1 hx with rfl | hx
    · exact lp
    · have := (List.pairwise_cons.1 h.up).1 x hx
      omega
  · rcases List.mem_cons.1 hx with rfl | hx
    · exact ⟨by omega, np⟩
    · exact h.st x hx
  · have f := h.fin
    rw [← f]
    unfold finO
    rw [List.foldl_cons, List.foldl_cons, List.foldl_cons, ← ord_open ix nd h.ok la e hp]
theorem OSt.pop {U : Tr} {k a : Nat} {ord S : List Nat} (ix : TrIdx U) (nd : U.Nodup) (h : OSt U k ord (a :: S)) (hp : ∀ n ∈ (rowAt U a).2, n.toNat ∈ ord) : OSt U k (ord ++ [a]) S ∧ ord.length < U.length := by
  obtain ⟨la, na⟩ := h.st a List.mem_cons_self
  have ok := h.ok.snoc la na hp
  have le := ok.le
  rw [List.length_append, List.length_singleton] at le
  refine ⟨⟨ok, (List.pairwise_cons.1 h.up).2, fun x hx => ⟨(h.st x (List.mem_cons_of_mem _ hx)).1, fun z => ?_⟩, ?_⟩, by omega⟩
  · rcases List.mem_append.1 z with z | z
    · exact (h.st x (List.mem_cons_of_mem _ hx)).2 z
    · have := (List.pairwise_cons.1 h.up).1 x hx
      have := List.mem_singleton.1 z
      omega
  · rw [← h.fin]
    unfold finO
    rw [List.foldl_cons, ord_new ix nd h.ok la na hp]
end Bk
set_option Elab.async false
/-! Bk69: trees with one top; the law of k09. -/
namespace Bk
open PySem PySem.Spec PyProof.Rows L2
structure TrT (T : PT) (c : Tr) : Prop where
  pos : 0 < c.length
  few : c.length ≤ 400
  idx : TrIdx c
  top : trA c (c.length - 1) = T
  name : ∀ r ∈ c, TextOk r.1
theorem plain_top {t : Tr} (ok : TrIdx t) (h : 0 < t.length) : trA (plainF t) ((plainF t).length - 1) = trA t (t.length - 1) := by
  have pe := plain_end ok h
  have := pe.last PT (default : PT) PT.node
  unfold trA trP
  rw [List.getD_eq_getElem?_getD, List.getD_eq_getElem?_getD, this]
theorem TrT.plain {T : PT} {c : Tr} (h : TrT T c) : TrT T (plainF c) ∧ plainF c = plT T := by
  have pe := plain_end h.idx h.pos
  have l := pe.le
  have f := h.few
  refine ⟨⟨pe.pos, by omega, pe.idx, (plain_top h.idx h.pos).trans h.top, plain_names h.idx h.pos h.name⟩, ?_⟩
  rw [plainF_eq, h.top]
theorem TrT.row {nm : Str} {ps : List PT} {c : Tr} (h : TrT (.node nm ps) c) : (rowAt c (c.length - 1)).1 = nm ∧ (rowAt c (c.length - 1)).2.map (fun n => trA c n.toNat) = ps ∧ ps.length ≤ 2 := by
  have p := h.pos
  have er := List.getElem?_eq_getElem (l := c) (i := c.length - 1) (by omega)
  have e := h.top
  rw [trA_at h.idx er] at e
  injection e with e1 e2
  have r := rowAt_eq er
  rw [r]
  exact ⟨e1, e2, by rw [← e2, List.length_map]; exact (h.idx _ _ er).1⟩
theorem TrT.part {nm : Str} {ps : List PT} {c : Tr} (h : TrT (.node nm ps) c) : ∀ p ∈ ps, TrT p (plT p) ∧ (plT p).length ≤ c.length := fun p hp => by
  obtain ⟨_, e2, _⟩ := h.row
  rw [← e2] at hp
  obtain ⟨n, hn, rfl⟩ := List.mem_map.1 hp
  have q := h.pos
  have er := List.getElem?_eq_getElem (l := c) (i := c.length - 1) (by omega)
  rw [rowAt_eq er] at hn
  have ix := (h.idx _ _ er).2 n hn
  have l : (c.take (n.toNat + 1)).length = n.toNat + 1 := by rw [List.length_take]; omega
  have f := h.few
  have t : TrT (trA c n.toNat) (c.take (n.toNat + 1)) := ⟨by omega, by omega, h.idx.take _, by rw [l, Nat.add_sub_cancel]; exact trA_take (by omega) (Nat.lt_succ_self _), fun r hr => h.name r (List.mem_of_mem_take hr)⟩
  have z := t.plain
  have pl := (plain_end t.idx t.pos).le
  rw [z.2] at pl
  rw [z.2] at z
  exact ⟨z.1, by omega⟩
theorem TrT.size {T : PT} {c : Tr} (h : TrT T c) : (treeD c).size ≤ 2001 := by
  have := tree_size h.idx
  have := h.few
  omega
end Bk
set_option Elab.async false
/-! Bk70: patterns put into patterns. -/
namespace Bk
open PySem PySem.Spec PyProof.Rows L2
/-! ### values of patterns -/
/-! ### a pattern laid into rows -/
/-! ### a pattern with patterns put in -/
end Bk
set_option Elab.async false
set_option linter.all false
set_option maxRecDepth 100000
set_option maxHeartbeats 4000000
/-! Bk71: numbers and fractions as texts -/
namespace Bk
open PySem PySem.Spec PyProof.Rows L2
/-! ### numbers as texts -/
def numT (i : Int) : Str := ((toString i : String) : Str)
def numTL (i : Int) : List Nat := if i < 0 then 45 :: TL.numL i.natAbs else TL.numL i.natAbs
theorem numT_tl (i : Int) : (numT i).cps.toList = numTL i := by
  unfold numT numTL
  by_cases h : i < 0
  · rw [if_pos h]
    have e : (0 : Int) - i = ((i.natAbs : Nat) : Int) := by omega
    show TL.tl (Str.ofString (toString i)) = _
    rw [TL.tl_ofString, PyProof.Rows.toString_neg h, String.toList_append, List.map_append, ← TL.tl_ofString (toString (0 - i)), e, TL.tl_num]
    rfl
  · rw [if_neg h]
    have e : i = ((i.natAbs : Nat) : Int) := by omega
    show TL.tl (Str.ofString (toString i)) = _
    rw [e, TL.tl_num]
    rfl
theorem numTL_len {i : Int} {k : Nat} (hk : 0 < k) (h : i.natAbs < 10 ^ k) : (numTL i).length ≤ k + 1 := by
  have := TL.numL_len hk h
  unfold numTL
  split
  · rw [List.length_cons]; omega
  · omega
theorem numT_len {i : Int} {k : Nat} (hk : 0 < k) (h : i.natAbs < 10 ^ k) : (numT i).length ≤ k + 1 := by
  rw [str_len, numT_tl]
  exact numTL_len hk h
/-! ### figures -/
/-! ### fractions as texts -/
def showFx (f : Fx) : Str := if f.2 = 1 then numT f.1 else numT f.1 ++ "/" ++ numT f.2
end Bk
set_option Elab.async false
set_option linter.all false
set_option maxRecDepth 100000
set_option maxHeartbeats 4000000
/-! Bk72: int(t, 10), f-strings -/
namespace Bk
open PySem PySem.Spec PyProof.Rows L2
/-! ### int(t, 10) -/
/-! ### f-strings, str, int of texts -/
section
variable {K : PySem.W.Frag} {H : Hp} {Q : VK} {σ : L2.St}
/-- {x}: a text or an int -/
def uFmtV (x : V) (H : Hp) (Q : VK) : Prop := match x with
  | .str y => y.length ≤ 1000000 ∧ Q (.str y) H
  | .int i => i.natAbs.log2 < 1920 ∧ Q (.str (numT i)) H
  | _ => False
def uFmt (te : TE) : TE := fun σ H Q => te σ H fun x H1 => uFmtV x H1 Q
theorem g_fmt {te : TE} (h : te σ H fun x H1 => uFmtV x H1 Q) : uFmt te σ H Q := h
/-- f'..' -/
def uJs (ts : List TE) : TE := fun σ H Q => tJs ts Str.empty σ H fun out H1 => Q (.str out) H1
theorem g_uJs {ts : List TE} (h : tJs ts Str.empty σ H fun out H1 => Q (.str out) H1) : uJs ts σ H Q := h
theorem g_js {t : TE} {ts : List TE} {acc : Str} {R : Str → Hp → Prop} (h : t σ H fun x H1 => ∃ y : Str, x = .str y ∧ (acc ++ y).length ≤ sizeLine ∧ tJs ts (acc ++ y) σ H1 R) : tJs (t :: ts) acc σ H R := h
theorem g_jn {acc : Str} {R : Str → Hp → Prop} (h : R acc H) : tJs [] acc σ H R := h
end
theorem numT_bits {n : Nat} {i : Int} (h : Bits n i) (hn : 0 < n := by decide) : (numT i).length ≤ n + 1 := numT_len hn (Nat.lt_of_lt_of_le h (Nat.pow_le_pow_left (by decide) n))
end Bk
set_option Elab.async false
set_option linter.all false
set_option maxRecDepth 100000
set_option maxHeartbeats 4000000
/-! Bk73: readers as texts -/
namespace Bk
open PySem PySem.Spec PyProof.Rows L2
/-! ### pieces of a text cut at a sign -/
/-! ### terms, sums, rows as texts -/
def wordT (p : Nat) (b : Int) : Str := numT (p : Int) ++ "." ++ numT b
def wordsT : Nat → List (Option Int) → List Str
  | _, [] => []
  | n, none :: bs => wordsT (n + 1) bs
  | n, some b :: bs => wordT n b :: wordsT (n + 1) bs
def termT (t : Tm) : Str := Txt.join " " (showFx t.1 :: wordsT 0 t.2)
/-! ### reading -/
/-- a term that is read back -/
structure TmW (many : Nat) (t : Tm) : Prop where
  low : LowF t.1
  upper : t.1.1.natAbs < 10 ^ 30
  lower : t.1.2.natAbs < 10 ^ 30
  len : t.2.length = many
  box : ∀ b : Int, some b ∈ t.2 → 0 ≤ b ∧ b < 100
/-! ### sums -/
end Bk
set_option Elab.async false
set_option linter.all false
set_option maxRecDepth 100000
set_option maxHeartbeats 4000000
/-! Bk74: contracts of readers as texts -/
namespace Bk
open PySem PySem.Spec PyProof.Rows L2
theorem wordsT_len : ∀ (bs : List (Option Int)) (n : Nat), (wordsT n bs).length ≤ bs.length
  | [], _ => Nat.le_refl _
  | none :: bs, n => Nat.le_succ_of_le (wordsT_len bs (n + 1))
  | some b :: bs, n => Nat.succ_le_succ (wordsT_len bs (n + 1))
theorem small_bits {n : Nat} (h : n ≤ 1000) : Bits 10 (n : Int) := by
  show n < 2 ^ 10
  omega
theorem wordT_len {n : Nat} {b : Int} (hn : n ≤ 1000) (h : Bits 100 b) : (wordT n b).length ≤ 200 := by
  have l1 := numT_bits (small_bits hn)
  have l2 := numT_bits h
  unfold wordT
  rw [app_len, app_len]
  show _ + 1 + _ ≤ _
  omega
theorem wordsT_in : ∀ (bs : List (Option Int)) (n : Nat) (s : Str), s ∈ wordsT n bs → ∃ k b, s = wordT k b ∧ k < n + bs.length ∧ some b ∈ bs
  | [], _, _, h => by cases h
  | none :: bs, n, s, h => by
    obtain ⟨k, b, e, hk, hb⟩ := wordsT_in bs (n + 1) s h
    exact ⟨k, b, e, by rw [List.length_cons]; omega, List.mem_cons_of_mem _ hb⟩
  | some b :: bs, n, s, h => by
    rcases List.mem_cons.1 h with rfl | h
    · exact ⟨n, b, rfl, by rw [List.length_cons]; omega, List.mem_cons_self⟩
    · obtain ⟨k, b, e, hk, hb⟩ := wordsT_in bs (n + 1) s h
      exact ⟨k, b, e, by rw [List.length_cons]; omega, List.mem_cons_of_mem _ hb⟩
theorem showFx_len {f : Fx} {n : Nat} (h1 : Bits n f.1) (h2 : Bits n f.2) (hn : 0 < n := by decide) : (showFx f).length ≤ 2 * n + 3 := by
  have l1 := numT_bits h1 hn
  have l2 := numT_bits h2 hn
  unfold showFx
  split
  · omega
  · rw [app_len, app_len]
    show _ + 1 + _ ≤ _
    omega
end Bk
set_option Elab.async false
set_option linter.all false
set_option maxRecDepth 100000
set_option maxHeartbeats 4000000
/-! Bk75: how long readers' texts are -/
namespace Bk
open PySem PySem.Spec PyProof.Rows L2
/-! ### raised within an except suite -/
theorem g_iS {i j : Int} {gg : Int → Int → V} {C : Int → Int → Prop} {H : Hp} {Q : VK} (hc : C i j) (h : Q (gg i j) H) : uI C gg (.int i) (.int j) H Q := ⟨hc, h⟩
/-! ### loops that nothing leaves: what stands behind them is out of sight -/
section
variable {J : It} {n : Nat} {G : Hp → Prop} {Y : Nat → Hp → V → Hp → Prop}
theorem for_itC (w : Walk J n G Y) {g : TG} {tb : TS} {D : Ends} {σ : L2.St} {H : Hp} (Pv : Nat → L2.St → Hp → Prop) (h0 : Pv 0 σ H) (hG : ∀ i σ H, i ≤ n → Pv i σ H → G H)
    (hs : ∀ (RT : VK) (BK : L2.St → Hp → Prop) i x σ H H', i < n → Pv i σ H → Y i H x H' → g x σ H' fun σ2 H2 => tb { nx := Pv (i + 1), rt := RT, bk := BK, ct := Pv (i + 1) } σ2 H2) (hd : ∀ σ H, Pv n σ H → D.nx σ H) :
    ∃ W : Nat → Nat → L2.St → Hp → Prop, (∃ m, W 0 m σ H) ∧ ∀ i m σ H, W i m σ H →
      (J.stop i H ∧ D.nx σ H) ∨ (J.go i H ∧ ∃ N : L2.St → Hp → Prop, (∀ σ' H', N σ' H' → ∃ m', m' < m ∧ W (i + 1) m' σ' H') ∧ ∀ x H', J.yld i H x H' → g x σ H' fun σ2 H2 => tb { D with nx := N, ct := N, bk := D.nx } σ2 H2) :=
  for_it w Pv h0 hG (fun i x σ H H' hi p y => hs D.rt D.nx i x σ H H' hi p y) hd
end
/-! ### how long the texts are -/
structure TmL (t : Tm) : Prop where
  upper : Bits 10 t.1.1
  lower : Bits 10 t.1.2
  two : t.2.length ≤ 2
  box : ∀ b : Int, some b ∈ t.2 → Bits 10 b
theorem TmL.len {t : Tm} (h : TmL t) : (termT t).length ≤ 700 := by
  have l1 := showFx_len h.upper h.lower
  have l2 := wordsT_len t.2 0
  have l3 := h.two
  have z := join_len (y := " ") (ps := showFx t.1 :: wordsT 0 t.2) (b := 200) fun s hs => by
    rcases List.mem_cons.1 hs with rfl | hs
    · omega
    · obtain ⟨k, b, rfl, hk, hb⟩ := wordsT_in _ _ _ hs
      exact wordT_len (by omega) ((h.box b hb).le (by decide))
  have e : (" " : Str).length = 1 := by decide
  rw [List.length_cons, e] at z
  have := Nat.mul_le_mul_right 201 (by omega : (wordsT 0 t.2).length + 1 ≤ 3)
  exact Nat.le_trans z (by omega)
theorem FxOk.small {f : Fx} (h : FxOk f) : f.1.natAbs < 10 ^ 30 ∧ f.2.natAbs < 10 ^ 30 := by
  obtain ⟨a, b, c, d⟩ := h
  exact ⟨by omega, by omega⟩
theorem TmOk.w {w : Wd} (ok : WoodOk w) {r : Rd} (h : RdOk w r) {e : Nat × Mk} (he : e ∈ tabFrom 0 w) {t : Tm} (k : TmOk r.1 (dueOf w e) t) : TmW e.2.2.length t := by
  obtain ⟨d1, d2, d3, d4⟩ := dueOf_in ok he
  have tl := k.len
  refine ⟨k.num.low, k.num.small.1, k.num.small.2, tl.trans d2, fun bb hb => ?_⟩
  obtain ⟨u, hu⟩ := List.mem_iff_getElem?.1 hb
  have lu := (List.getElem?_eq_some_iff.1 hu).1
  have eu := List.getElem?_eq_getElem (l := dueOf w e) (i := u) (by omega)
  have z := List.all_eq_true.1 k.box _ (List.mem_of_getElem? (zip_at eu hu))
  replace z : decide (0 ≤ bb ∧ bb < cntAt r.1 ((dueOf w e)[u]'(by omega))) = true := z
  have z2 := of_decide_eq_true z
  obtain ⟨q0, q1⟩ := d4 _ (List.getElem_mem (by omega : u < (dueOf w e).length))
  have c5 : cntAt r.1 ((dueOf w e)[u]'(by omega)) ≤ 4 := by
    unfold cntAt
    rw [List.getD_eq_getElem?_getD, List.getElem?_eq_getElem (by rw [h.counts]; omega)]
    exact (h.count _ (List.getElem_mem _)).2
  omega
/-! ### a reader that is let by -/
/-! ### how great a reader is -/
def AskedR (H : Hp) (x : V) : Prop := ∃ (a : Addr) (w : Wd) (r : Rd) (wv rv : V), x = .ref a ∧ H a = some (.tup [wv, rv]) ∧ Rep H (woodD w) wv ∧ WoodOk w ∧ Rep H (rdD r) rv ∧ RdOk w r
theorem AskedR.tk {H H' : Hp} {x : V} (h : AskedR H x) (e : Tk H H') : AskedR H' x := by
  obtain ⟨a, w, r, wv, rv, h1, h2, h3, h4, h5, h6⟩ := h
  exact ⟨a, w, r, wv, rv, h1, e _ _ h2, h3.tk e (wood_hard w), h4, h5.tk e (rd_hard r), h6⟩
end Bk
set_option Elab.async false
set_option linter.all false
set_option maxRecDepth 100000
set_option maxHeartbeats 4000000
/-! Bk76: fractions as rational numbers -/
namespace Bk
open PySem PySem.Spec PyProof.Rows L2
/-! ### fractions as rational numbers -/
def ratV (f : Fx) : Rat := Rat.divInt f.1 f.2
theorem ratV_low {u l : Int} (h : 0 < l) : ratV (lowF u l) = Rat.divInt u l := by
  obtain ⟨a, b, c, d⟩ := low_parts (u := u) h
  unfold ratV
  have g0 : ((Int.gcd u l : Nat) : Int) ≠ 0 := by
    have : 0 < Int.gcd u l := Int.gcd_pos_of_ne_zero_right _ (by omega)
    omega
  have z := Rat.divInt_mul_right (n := fru u l) (d := frl u l) (a := ((Int.gcd u l : Nat) : Int)) g0
  rw [a, b] at z
  exact z.symm
theorem ratV_add {f g : Fx} (hf : 0 < f.2) (hg : 0 < g.2) : ratV (addF f g) = ratV f + ratV g := by
  unfold addF
  rw [ratV_low (Int.mul_pos hf hg)]
  unfold ratV
  rw [Rat.divInt_add_divInt _ _ (by omega) (by omega)]
theorem ratV_int (n : Int) : ratV (n, 1) = (n : Rat) := by
  show Rat.divInt n ((1 : Nat) : Int) = _
  rw [Rat.divInt_ofNat]
  exact Rat.mkRat_self (n : Rat)
/-! ### what sums of products come to -/
def prodQ : List (List Fx × Option Int) → Rat
  | [] => 1
  | x :: l => (match x.2 with | none => 1 | some i => ratV (x.1.getD i.toNat (0, 1))) * prodQ l
def PosP (parts : List (List Fx)) : Prop := ∀ p ∈ parts, ∀ f ∈ p, 0 < f.2
def termQ (parts : List (List Fx)) (t : Tm) : Rat := ratV t.1 * prodQ (parts.zip t.2)
def sumQ (parts : List (List Fx)) : Sm → Rat
  | [] => 0
  | t :: s => termQ parts t + sumQ parts s
theorem sumQ_app (parts : List (List Fx)) : ∀ s r : Sm, sumQ parts (s ++ r) = sumQ parts s + sumQ parts r
  | [], r => (Rat.zero_add _).symm
  | t :: s, r => by
    show termQ parts t + sumQ parts (s ++ r) = termQ parts t + sumQ parts s + sumQ parts r
    rw [sumQ_app parts s r, Rat.add_assoc]
theorem sumQ_perm (parts : List (List Fx)) {s r : Sm} (h : s.Perm r) : sumQ parts s = sumQ parts r := by
  induction h with
  | nil => rfl
  | cons x _ ih =>
    show termQ parts x + _ = termQ parts x + _
    rw [ih]
  | swap x y l =>
    show termQ parts y + (termQ parts x + sumQ parts l) = termQ parts x + (termQ parts y + sumQ parts l)
    rw [Rat.add_left_comm]
  | trans _ _ a b => exact a.trans b
end Bk
set_option Elab.async false
set_option linter.all false
set_option maxRecDepth 100000
set_option maxHeartbeats 4000000
/-! Bk77: readers with greater numbers; copies of rows -/
namespace Bk
open PySem PySem.Spec PyProof.Rows L2
/-! ### readers with somewhat greater numbers -/
structure TmG (cs ps : List Int) (t : Tm) : Prop where
  low : LowF t.1
  upper : t.1.1.natAbs ≤ 2000
  lower : t.1.2 ≤ 100
  len : t.2.length = ps.length
  box : (ps.zip t.2).all (boxOk cs) = true
structure RdG (w : Wd) (r : Rd) : Prop where
  counts : r.1.length = w.length
  count : ∀ c ∈ r.1, 0 ≤ c ∧ c ≤ 4
  rules : r.2.length = (tabFrom 0 w).length
  rule : ∀ (j : Nat) (e : Nat × Mk) (x : Rl), (tabFrom 0 w)[j]? = some e → r.2[j]? = some x → (x.length : Int) = cntAt r.1 e.1 ∧ ∀ s ∈ x, s.length ≤ 6 ∧ ∀ t ∈ s, TmG r.1 (dueOf w e) t
theorem TmOk.g {cs ps : List Int} {t : Tm} (h : TmOk cs ps t) : TmG cs ps t := by
  obtain ⟨a, b, c, d⟩ := h.num
  exact ⟨⟨a, b⟩, by omega, d, h.len, h.box⟩
theorem RdOk.g {w : Wd} {r : Rd} (h : RdOk w r) : RdG w r := ⟨h.counts, h.count, h.rules, fun j e x h1 h2 => by
  obtain ⟨a, b⟩ := h.rule j e x h1 h2
  exact ⟨a, fun s hs => ⟨(b s hs).1, fun t ht => ((b s hs).2 t ht).g⟩⟩⟩
theorem cnt_leG {w : Wd} {r : Rd} (h : RdG w r) {n : Int} (h0 : 0 ≤ n) (h1 : n < (w.length : Nat)) : 0 ≤ cntAt r.1 n ∧ cntAt r.1 n ≤ 4 := by
  unfold cntAt
  rw [List.getD_eq_getElem?_getD, List.getElem?_eq_getElem (by rw [h.counts]; omega)]
  exact h.count _ (List.getElem_mem _)
theorem RdG.many {w : Wd} (ok : WoodOk w) {r : Rd} (h : RdG w r) {j : Nat} {e : Nat × Mk} {x : Rl} (h1 : (tabFrom 0 w)[j]? = some e) (h2 : r.2[j]? = some x) : x.length ≤ 4 := by
  obtain ⟨a, _⟩ := h.rule j e x h1 h2
  obtain ⟨d1, _⟩ := dueOf_in ok (List.mem_of_getElem? h1)
  have := cnt_leG h (n := ((e.1 : Nat) : Int)) (by omega) (by omega)
  omega
theorem TmG.sz {cs ps : List Int} {t : Tm} (h : TmG cs ps t) : Szf 2000 lcmA t.1 := by
  have a := h.upper
  have b := h.lower
  have p := h.low.1
  refine ⟨p, lcm_dvd (by omega) (by omega), ?_⟩
  have : 2000 * 1 ≤ 2000 * t.1.2.natAbs := Nat.mul_le_mul_left _ (by omega)
  omega
/-! ### what a row reads, and where it is used -/
end Bk
set_option Elab.async false
set_option linter.all false
set_option maxRecDepth 100000
set_option maxHeartbeats 4000000
/-! Bk78: the same by other terms; boxes in another order -/
namespace Bk
open PySem PySem.Spec PyProof.Rows L2
/-! ### sums that come to the same -/
theorem RdG.pos {w : Wd} {r : Rd} (h : RdG w r) {j : Nat} {e : Nat × Mk} {x : Rl} (h1 : (tabFrom 0 w)[j]? = some e) (h2 : r.2[j]? = some x) : ∀ s ∈ x, ∀ t ∈ s, 0 < t.1.2 := fun s hs t ht => (((h.rule j e x h1 h2).2 s hs).2 t ht).low.1
/-! ### boxes in another order -/
structure OrdR (w : Wd) (r : Rd) (os : List (List Int)) : Prop where
  len : os.length = w.length
  all : ∀ (k : Nat) (ks : List Int), os[k]? = some ks → (ks.length : Int) = cntAt r.1 (k : Nat) ∧ ∀ n : Int, n ∈ ks ↔ 0 ≤ n ∧ n < cntAt r.1 (k : Nat)
section
variable {w : Wd} {r : Rd} {os : List (List Int)}
theorem OrdR.get (h : OrdR w r os) {n : Int} (h0 : 0 ≤ n) (h1 : n < (w.length : Nat)) : ((os.getD n.toNat []).length : Int) = cntAt r.1 n ∧ ∀ m : Int, m ∈ os.getD n.toNat [] ↔ 0 ≤ m ∧ m < cntAt r.1 n := by
  have lt : n.toNat < os.length := by rw [h.len]; omega
  have e := List.getElem?_eq_getElem lt
  have z := h.all n.toNat _ e
  rw [List.getD_eq_getElem?_getD, e]
  rw [Int.toNat_of_nonneg h0] at z
  exact z
end
end Bk
set_option Elab.async false
set_option linter.all false
set_option maxRecDepth 100000
set_option maxHeartbeats 4000000
/-! Bk79: terms otherwise, orders -/
namespace Bk
open PySem PySem.Spec PyProof.Rows L2
/-! ### rows in another order -/
/-! ### sums that come to the same -/
theorem sumQ_part (parts : List (List Fx)) {f : Fx} (hf : 0 < f.2) (k : Int) (b : List (Option Int)) : termQ parts (addF f (0 - k, 1), b) + termQ parts ((k, 1), b) = termQ parts (f, b) := by
  unfold termQ
  rw [ratV_add hf (show (0 : Int) < 1 by decide), ratV_int, ratV_int, Int.zero_sub, Rat.intCast_neg]
  generalize prodQ (parts.zip _) = P
  grind
def SameS (s s' : Sm) : Prop := ∀ parts, PosP parts → sumQ parts s = sumQ parts s'
theorem SameS.perm {s s' : Sm} (h : s.Perm s') : SameS s s' := fun parts _ => sumQ_perm parts h
theorem SameS.trans {s s' s'' : Sm} (h : SameS s s') (h' : SameS s' s'') : SameS s s'' := fun parts k => (h parts k).trans (h' parts k)
theorem SameS.part {s : Sm} {f : Fx} {b : List (Option Int)} (hf : 0 < f.2) (k : Int) : SameS (s ++ [(addF f (0 - k, 1), b), ((k, 1), b)]) (s ++ [(f, b)]) := fun parts _ => by
  rw [sumQ_app, sumQ_app]
  show _ + (termQ parts (addF f (0 - k, 1), b) + (termQ parts ((k, 1), b) + 0)) = _ + (termQ parts (f, b) + 0)
  rw [Rat.add_zero, Rat.add_zero, sumQ_part parts hf]
theorem lowN (k : Int) : LowF (k, 1) := ⟨by show (0 : Int) < 1; decide, by show Int.gcd k 1 = 1; rw [Int.gcd_one_right]⟩
theorem TmG.num {cs ps : List Int} {t : Tm} (h : TmG cs ps t) {k : Int} (hk : k.natAbs ≤ 5) : TmG cs ps ((k, 1), t.2) := ⟨lowN k, by show k.natAbs ≤ 2000; omega, by show (1 : Int) ≤ 100; decide, h.len, h.box⟩
/-- a list of terms under way -/
structure OtSt (p L : Addr) (H0 H : Hp) (cs ps : List Int) (s0 s : Sm) (vs : List V) : Prop where
  lst : H L = some (.lst vs)
  rep : Reps H (s.map tmD) vs
  but : But p H0 H
  box : Box H p
  ok : ∀ t ∈ s, TmG cs ps t
  same : SameS s s0
theorem OtSt.len {p L : Addr} {H0 H : Hp} {cs ps : List Int} {s0 s : Sm} {vs : List V} (h : OtSt p L H0 H cs ps s0 s vs) : vs.length = s.length := by rw [h.rep.len, List.length_map]
theorem OtSt.ex {p L : Addr} {H0 H H' : Hp} {cs ps : List Int} {s0 s : Sm} {vs : List V} (h : OtSt p L H0 H cs ps s0 s vs) (e : Ex H H') : OtSt p L H0 H' cs ps s0 s vs := ⟨e _ _ h.lst, h.rep.ex e, h.but.trans (e.but p), h.box.ex e, h.ok, h.same⟩
theorem OtSt.new {p L a : Addr} {H0 H : Hp} {cs ps : List Int} {s0 s : Sm} {vs : List V} {o : HO} (h : OtSt p L H0 H cs ps s0 s vs) (ha : H a = none) : OtSt p L H0 (upd H a o) cs ps s0 s vs := h.ex (Ex.new ha)
theorem OtSt.by {p L : Addr} {H0 H H' : Hp} {cs ps : List Int} {s0 s : Sm} {vs : List V} (h : OtSt p L H0 H cs ps s0 s vs) (hL : H0 L = none) (n : L ≠ p) (b : But p H H') (hb : Box H' p) : OtSt p L H0 H' cs ps s0 s vs := ⟨b _ _ n h.lst, h.rep.tkm (h.box.tk b) tm_hard, h.but.trans b, hb, h.ok, h.same⟩
theorem SameS.refl (s : Sm) : SameS s s := fun _ _ => rfl
end Bk
set_option Elab.async false
set_option linter.all false
set_option maxRecDepth 100000
set_option maxHeartbeats 4000000
/-! Bk80: k18: what the law asks -/
namespace Bk
open PySem PySem.Spec PyProof.Rows L2
theorem SzsOk.mono {a b : Int} {t : Tr} {szs : List Int} (h : SzsOk a t szs) (hab : a ≤ b) : SzsOk b t szs := ⟨fun s hs => ⟨(h.le s hs).1, Int.le_trans (h.le s hs).2 hab⟩, h.row⟩
/-- the orders drawn -/
structure OrSt (w : Wd) (r : Rd) (H : Hp) (as : List Addr) (os : List (List Int)) : Prop where
  len : as.length = os.length
  lst : ∀ (k : Nat) (b : Addr) (o : List Int), as[k]? = some b → os[k]? = some o → H b = some (.lst (o.map V.int))
  perm : ∀ (k : Nat) (o : List Int), os[k]? = some o → (o.length : Int) = cntAt r.1 (k : Nat) ∧ ∀ n : Int, n ∈ o ↔ 0 ≤ n ∧ n < cntAt r.1 (k : Nat)
theorem OrSt.snoc {w : Wd} {r : Rd} {H H' : Hp} {as : List Addr} {os : List (List Int)} {a : Addr} {o : List Int} (h : OrSt w r H as os) (keep : ∀ b ∈ as, ∀ x, H b = some x → H' b = some x) (ha : H' a = some (.lst (o.map V.int))) (hp : (o.length : Int) = cntAt r.1 ((os.length : Nat) : Int) ∧ ∀ n : Int, n ∈ o ↔ 0 ≤ n ∧ n < cntAt r.1 ((os.length : Nat) : Int)) : OrSt w r H' (as ++ [a]) (os ++ [o]) := by
  refine ⟨by rw [List.length_append, List.length_append, h.len]; rfl, fun k b p e1 e2 => ?_, fun k p e2 => ?_⟩
  · by_cases c : k < as.length
    · rw [List.getElem?_append_left c] at e1
      rw [List.getElem?_append_left (by rw [← h.len]; exact c)] at e2
      exact keep b (List.mem_of_getElem? e1) _ (h.lst k b p e1 e2)
    · rw [List.getElem?_append_right (by omega)] at e1
      rw [List.getElem?_append_right (by rw [← h.len]; omega), ← h.len] at e2
      have z : k - as.length = 0 := by
        have := (List.getElem?_eq_some_iff.1 e1).1
        rw [List.length_singleton] at this
        omega
      rw [z] at e1 e2
      cases e1
      cases e2
      exact ha
  · by_cases c : k < os.length
    · rw [List.getElem?_append_left c] at e2
      exact h.perm k p e2
    · rw [List.getElem?_append_right (by omega)] at e2
      have lz := (List.getElem?_eq_some_iff.1 e2).1
      rw [List.length_singleton] at lz
      have z : k = os.length := by omega
      subst z
      rw [Nat.sub_self] at e2
      cases e2
      exact hp
end Bk
set_option Elab.async false
set_option linter.all false
set_option maxRecDepth 100000
set_option maxHeartbeats 4000000
/-! Bk81: methods of own classes, slices stored, dict.get, tuples many times over -/
namespace Bk
open PySem PySem.Spec PyProof.Rows L2
/-! ### own classes -/
def uMeth (C : Addr) (m : Str) (sp : Sp) (dvs : List V) (E : L2.St → XK) (ta : TE) (t : TA) : TE := fun σ H Q => ta σ H fun x H1 => ∃ a dx fs, x = .ref a ∧ H1 a = some (.ins C dx fs) ∧ fs.lookup m = none ∧ t σ H1 fun vs H2 => sp (x :: (vs ++ dvs)) H2 Q (E σ)
def uMake (C : Addr) (sp : Sp) (dvs : List V) (E : L2.St → XK) (t : TA) : TE := fun σ H Q => t σ H fun vs H1 => ∀ x dx, H1 x = none → H1 dx = none → dx ≠ x → sp (.ref x :: (vs ++ dvs)) (upd (upd H1 dx (.own x)) x (.ins C dx [])) (fun v H2 => v = .non ∧ Q (.ref x) H2) (E σ)
section
variable {X : Cx} {CX : CXT} {k : Nat} {f C : Addr} {fd : FuncData} {ps : List Str} {sp : Sp} {dvs : List V} {ds : List Value} {x m : Str} {p pos apos : Pos} {e o : Expr} {es : List Expr} {ta : TE} {t : TA}
section
variable {E : L2.St → XK}
theorem pe_methD {pl : Sem Bool} (he : PE X o ta) (c : Cls X.K C) (hm : Meth X.K C m f) (F : FnOk X.prog X.w X.K X.mg X.base CX k f fd ps sp) (hr : Room k X.A) (hb : Binds X.K fd ps ds) (hd : Vals dvs ds) (hx : ∀ σ, PassesAt CX X σ (E σ)) (ha : PA X (e :: es) t)
    (hst : starEach (e :: es) X.env = (false, eval e X.env) :: starEach es X.env := by rfl) (hpl : (backTo pos (starEach es X.env)).any (·.1) = false := by rfl)
    (ht : eval (.Call (.Attribute o m apos) (e :: es) [] pos) X.env = (do let ov ← eval o X.env
                                                                          standAt apos.atName
                                                                          let (f, first) ← holding [ov] (getMethod ov m pl)
                                                                          callWith pos f first (backTo pos (starEach (e :: es) X.env)) (backToKw pos (keywordEach [] X.env))) := by rfl) :
    PE X (.Call (.Attribute o m apos) (e :: es) [] pos) (uMeth C m sp dvs E ta t) := ⟨fun pins s σ H Q I h => by
  refine PySem.W.methodCall_KW (pl := pl) (thn (he.run pins s σ H _ I h) fun u s1 z => ?_) ht
  obtain ⟨x, H1, I1, rx, a, dx, fs, rfl, ea, l, q⟩ := z
  cases (show u = Value.ref a from rx)
  refine getmeth_ok I1 ea c hm l (PySem.W.callWith_K (first := [.ref a]) (h₀ := X.base) I.ok.mod.kin hm.kp (thn (ha.run pos pins s1 σ H1 _ I1 q) fun us s2 z => ?_) hst hpl)
  obtain ⟨vs, H2, I2, r, q2⟩ := z
  exact ⟨I2.kIn, run_fnD (us := .ref a :: us) (vs := .ref a :: vs) F hr hb hd (hx σ) I2 (.cons rfl r) q2⟩⟩
theorem pe_methD0 {pl : Sem Bool} (he : PE X o ta) (c : Cls X.K C) (hm : Meth X.K C m f) (F : FnOk X.prog X.w X.K X.mg X.base CX k f fd ps sp) (hr : Room k X.A) (hb : Binds X.K fd ps ds) (hd : Vals dvs ds) (hx : ∀ σ, PassesAt CX X σ (E σ))
    (ht : eval (.Call (.Attribute o m apos) [] [] pos) X.env = (do let ov ← eval o X.env
                                                                   standAt apos.atName
                                                                   let (f, first) ← holding [ov] (getMethod ov m pl)
                                                                   callWith pos f first (backTo pos (starEach [] X.env)) (backToKw pos (keywordEach [] X.env))) := by rfl) :
    PE X (.Call (.Attribute o m apos) [] [] pos) (uMeth C m sp dvs E ta tNil) := ⟨fun pins s σ H Q I h => by
  refine PySem.W.methodCall_KW (pl := pl) (thn (he.run pins s σ H _ I h) fun u s1 z => ?_) ht
  obtain ⟨x, H1, I1, rx, a, dx, fs, rfl, ea, l, q⟩ := z
  cases (show u = Value.ref a from rx)
  exact getmeth_ok I1 ea c hm l (PySem.W.callWith_K0 (first := [.ref a]) I1.kIn hm.kp (run_fnD (us := [.ref a]) (vs := [.ref a]) F hr hb hd (hx σ) I1 (.cons rfl .nil) q))⟩
end
theorem run_makeD {E : XK} {pins : List (Addr × Obj)} {σ : L2.St} {H : Hp} {s : Shared} {Q : VK} {us : List Value} {vs : List V} (M : L2.Mk X.K C f) (F : FnOk X.prog X.w X.K X.mg X.base CX k f fd ps sp) (hr : Room (k + 1) X.A) (hb : Binds X.K fd ps ds) (hd : Vals dvs ds)
    (hx : PassesAt CX X σ E) (I : Inv X pins σ H s) (r : Vals vs us)
    (h : ∀ x dx, H x = none → H dx = none → dx ≠ x → sp (.ref x :: (vs ++ dvs)) (upd (upd H dx (.own x)) x (.ins C dx [])) (fun v H2 => v = .non ∧ Q (.ref x) H2) E) :
    wpAny (model X.prog X.w) X.A (call (.ref C) us) (EP X pins σ Q) X.xe s := by
  obtain ⟨z, ez⟩ : ∃ z, z = s.heap.objs.size := ⟨_, rfl⟩
  have hq := h (z + 1) z (I.hok.fresh (by rw [ez]; exact Nat.le_succ _)) (I.hok.fresh (by rw [ez]; exact Nat.le_refl _)) (Nat.ne_of_lt (Nat.lt_succ_self _))
  have J := Inv.made (C := C) I
  rw [← ez] at J
  have R : Vals (V.ref (z + 1) :: (vs ++ dvs)) (Value.ref (z + 1) :: (us ++ ds)) := .cons rfl (r.append hd)
  have hl : (Value.ref (z + 1) :: us ++ ds).length = ps.length := (R.length.symm.trans (F.len _ _ _ _ hq) : (Value.ref (z + 1) :: (us ++ ds)).length = ps.length)
  have run := F.run _ X.stack _ _ ⟨Value.ref (z + 1) :: us, []⟩ (Value.ref (z + 1) :: (us ++ ds)) _ _ E (hr.make C us []) (J.env0.make C us []) (hb _ (Value.ref (z + 1) :: us) J.kIn hl) R hq
  subst ez
  refine wpAny_call (make_map (f := f) I.kIn M.makes M.init (beq_iff_eq.mp M.fn) (codeAny_mono run fun r' s' hq' => ?_))
  cases r' with
  | error e => exact hx pins _ _ e s' J hq'
  | ok fl =>
    cases fl with
    | ret u =>
      obtain ⟨v, H', I3, rv, rfl, q3⟩ := J.after hq'
      exact ⟨rv, ⟨V.ref (s.heap.objs.size + 1), H', I3, rfl, q3⟩⟩
    | next => exact hq'.elim
    | brk => exact hq'.elim
    | cont => exact hq'.elim
variable {E : L2.St → XK}
theorem pe_makeD (M : L2.Mk X.K C f) (F : FnOk X.prog X.w X.K X.mg X.base CX k f fd ps sp) (hr : Room (k + 1) X.A) (hg : Gl X x) (hm : X.mg x = some (.ref C)) (hb : Binds X.K fd ps ds) (hd : Vals dvs ds) (hx : ∀ σ, PassesAt CX X σ (E σ))
    (ha : PA X (e :: es) t) (hdb : (x == ("__debug__" : Str)) = false := by decide) (he : starEach (e :: es) X.env = (false, eval e X.env) :: starEach es X.env := by rfl) (hpl : (backTo pos (starEach es X.env)).any (·.1) = false := by rfl) :
    PE X (.Call (.Name x p) (e :: es) [] pos) (uMake C sp dvs E t) := ⟨fun pins s σ H Q I h => by
  refine wpAny_Call_Name_kw (ld_glob I hg hm (PySem.W.callWith_K (h₀ := X.base) I.ok.mod.kin M.kp (thn (ha.run pos pins s σ H _ I h) fun us s1 z => ?_) he hpl) hdb)
  obtain ⟨vs, H1, I1, r, q⟩ := z
  exact ⟨I1.kIn, run_makeD M F hr hb hd (hx σ) I1 r q⟩⟩
end
section
variable {K : PySem.W.Frag} {C : Addr} {m : Str} {sp : Sp} {dvs : List V} {E : L2.St → XK} {ta : TE} {t : TA} {σ : L2.St} {H : Hp} {Q : VK} {a dx : Addr} {fs : List (Str × V)} {v : V} {f : Str}
theorem g_self {P : Prop} (ha : H a = some (.ins C dx fs)) (n : fs.lookup m = none) (h : P) : ∃ a' dx' fs', V.ref a = .ref a' ∧ H a' = some (.ins C dx' fs') ∧ fs'.lookup m = none ∧ P := ⟨a, dx, fs, rfl, ha, n, h⟩
theorem g_make (h : t σ H fun vs H1 => ∀ x dx, H1 x = none → H1 dx = none → dx ≠ x → sp (.ref x :: (vs ++ dvs)) (upd (upd H1 dx (.own x)) x (.ins C dx [])) (fun v H2 => v = .non ∧ Q (.ref x) H2) (E σ)) : uMake C sp dvs E t σ H Q := h
theorem g_fld (h : ta σ H fun x H1 => ∃ a C dx fs v, x = .ref a ∧ H1 a = some (.ins C dx fs) ∧ Cls K C ∧ NoAttr K C f ∧ fs.lookup f = some v ∧ Q v H1) : tFld K ta f σ H Q := h
theorem g_fldO {P : V → Prop} (ha : H a = some (.ins C dx fs)) (c : Cls K C) (n : NoAttr K C f) (l : fs.lookup f = some v) (h : P v) : ∃ a' C' dx' fs' v', V.ref a = .ref a' ∧ H a' = some (.ins C' dx' fs') ∧ Cls K C' ∧ NoAttr K C' f ∧ fs'.lookup f = some v' ∧ P v' := ⟨a, C, dx, fs, v, rfl, ha, c, n, l, h⟩
theorem g_sfld {tv : TE} {D : Ends} (h : tv σ H fun y H1 => ta σ H1 fun x H2 => ∃ a C dx fs, x = .ref a ∧ H2 a = some (.ins C dx fs) ∧ Cls K C ∧ NoAttr K C f ∧ fs.length < 1000 ∧ D.nx σ (upd H2 a (.ins C dx (putF f y fs)))) : sFld K ta tv f D σ H := h
theorem g_sfldO {P : Hp → Prop} {y : V} (ha : H a = some (.ins C dx fs)) (c : Cls K C) (n : NoAttr K C f) (l : Nat.ble fs.length 900 = true) {fs' : List (Str × V)} (e : putF f y fs = fs') (h : P (upd H a (.ins C dx fs'))) : ∃ a' C' dx' fs', V.ref a = .ref a' ∧ H a' = some (.ins C' dx' fs') ∧ Cls K C' ∧ NoAttr K C' f ∧ fs'.length < 1000 ∧ P (upd H a' (.ins C' dx' (putF f y fs'))) := ⟨a, C, dx, fs, rfl, ha, c, n, Nat.lt_of_le_of_lt (Nat.le_of_ble_eq_true l) (by decide), by rw [e]; exact h⟩
end
/-! ### slices stored -/
/-! ### dict.get -/
/-! ### tuple * n, short tuples many times over -/
end Bk
set_option Elab.async false
set_option linter.all false
set_option maxRecDepth 100000
set_option maxHeartbeats 4000000
/-! Bk82: trees as words -/
namespace Bk
open PySem PySem.Spec PyProof.Rows L2
/-! ### a tree's word -/
def wordF : Str → List (List Str) → List Str := fun s ws => ws.flatten ++ [s]
def wordP (p : PT) : List Str := evT wordF p
theorem wordP_node (s : Str) (ps : List PT) : wordP (.node s ps) = (ps.map wordP).flatten ++ [s] := by
  unfold wordP
  rw [evT_node]
  rfl
def sizeP (p : PT) : Int := evT szf p
theorem sizeP_node (s : Str) (ps : List PT) : sizeP (.node s ps) = 1 + (ps.map sizeP).sum := by
  unfold sizeP
  rw [evT_node]
  rfl
mutual
theorem wordP_len : ∀ p : PT, ((wordP p).length : Int) = sizeP p
  | .node s ps => by
    rw [wordP_node, sizeP_node, List.length_append]
    have := wordP_lens ps
    show ((_ + 1 : Nat) : Int) = _
    omega
theorem wordP_lens : ∀ ps : List PT, ((ps.map wordP).flatten.length : Int) = (ps.map sizeP).sum
  | [] => rfl
  | p :: ps => by
    have h1 := wordP_len p
    have h2 := wordP_lens ps
    rw [List.map_cons, List.flatten_cons, List.length_append, List.map_cons, List.sum_cons]
    omega
end
theorem size_pos (p : PT) : 1 ≤ sizeP p := by
  cases p with
  | node s ps =>
    rw [← wordP_len, wordP_node, List.length_append]
    show 1 ≤ ((_ + 1 : Nat) : Int)
    omega
/-! ### reading a word -/
abbrev Nm := Str × Option Int
structure StN where
  rows : Tr
  pile : List (Int × Int)
def stepN (w : Wd) (s : StN) (n : Nm) : Option StN := match mkOf w n.1 with
  | none => none
  | some e =>
    if (dueOf w e).length ≤ s.pile.length ∧ (n.2 = none ∨ n.2 = some (((dueOf w e).length : Nat) : Int)) ∧ (s.pile.drop (s.pile.length - (dueOf w e).length)).map Prod.fst = dueOf w e then
      some ⟨s.rows ++ [(n.1, (s.pile.drop (s.pile.length - (dueOf w e).length)).map Prod.snd)], s.pile.take (s.pile.length - (dueOf w e).length) ++ [(((e.1 : Nat) : Int), ((s.rows.length : Nat) : Int))]⟩
    else none
/-- what stands while a word is read -/
structure NInv (w : Wd) (s : StN) : Prop where
  idx : TrIdx s.rows
  name : ∀ r ∈ s.rows, ∃ e, mkOf w r.1 = some e
  pile : ∀ p ∈ s.pile, 0 ≤ p.2 ∧ p.2 < (s.rows.length : Nat) ∧ p.1 = kindAt w (rowAt s.rows p.2.toNat).1
theorem NInv.nil (w : Wd) : NInv w ⟨[], []⟩ := ⟨fun i r h => by simp at h, fun r h => (nomatch h), fun p h => (nomatch h)⟩
theorem rowAt_app {t e : Tr} {a : Nat} (h : a < t.length) : rowAt (t ++ e) a = rowAt t a := by
  unfold rowAt
  rw [List.getD_eq_getElem?_getD, List.getD_eq_getElem?_getD, List.getElem?_append_left h]
theorem rowAt_new {t : Tr} {r : Str × List Int} : rowAt (t ++ [r]) t.length = r := rowAt_eq (by rw [List.getElem?_append_right (Nat.le_refl _), Nat.sub_self]; rfl)
theorem NInv.step {w : Wd} (ok : WoodOk w) {s s' : StN} {n : Nm} (h : NInv w s) (e : stepN w s n = some s') : NInv w s' ∧ s'.rows.length = s.rows.length + 1 ∧ s'.pile.length ≤ s.pile.length + 1 := by
  unfold stepN at e
  split at e
  · cases e
  · rename_i m hm
    split at e
    · rename_i c
      cases e
      have d2 := due_two ok (mkOf_some hm).1
      refine ⟨⟨h.idx.snoc ?_ fun x hx => ?_, fun r hr => ?_, fun p hp => ?_⟩, by rw [List.length_append]; rfl, by rw [List.length_append, List.length_take]; show _ + 1 ≤ _; omega⟩
      · show (List.map _ _).length ≤ 2
        rw [List.length_map, List.length_drop]
        omega
      · obtain ⟨p, hp, rfl⟩ := List.mem_map.1 hx
        obtain ⟨a, b, _⟩ := h.pile p (List.mem_of_mem_drop hp)
        exact ⟨a, b⟩
      · rcases List.mem_append.1 hr with hr | hr
        · exact h.name r hr
        · rw [List.mem_singleton.1 hr]
          exact ⟨m, hm⟩
      · have lr : (s.rows ++ [(n.1, (s.pile.drop (s.pile.length - (dueOf w m).length)).map Prod.snd)]).length = s.rows.length + 1 := by rw [List.length_append]; rfl
        rcases List.mem_append.1 hp with hp | hp
        · obtain ⟨a, b, c⟩ := h.pile p (List.mem_of_mem_take hp)
          exact ⟨a, by rw [lr]; omega, by rw [rowAt_app (by omega)]; exact c⟩
        · rw [List.mem_singleton.1 hp]
          refine ⟨Int.natCast_nonneg _, by rw [lr]; show ((s.rows.length : Nat) : Int) < _; omega, ?_⟩
          show ((m.1 : Nat) : Int) = kindAt w (rowAt _ (((s.rows.length : Nat) : Int).toNat)).1
          rw [Int.toNat_natCast, rowAt_new]
          show _ = kindAt w n.1
          unfold kindAt
          rw [hm]
    · cases e
/-! ### a tree's word, read -/
theorem trA_pre {t e : Tr} {a : Nat} (h : a < t.length) : trA (t ++ e) a = trA t a := by
  have z := trA_take (t := t ++ e) (k := t.length) (by rw [List.length_append]; omega) h
  rw [List.take_left] at z
  exact z.symm
end Bk
set_option Elab.async false
set_option linter.all false
set_option maxRecDepth 100000
set_option maxHeartbeats 4000000
/-! Bk83: words: what stands on the stack, contracts of k10 -/
namespace Bk
open PySem PySem.Spec PyProof.Rows L2
/-! ### the stack of word_of -/
/-! ### contracts -/
end Bk
set_option Elab.async false
set_option linter.all false
set_option maxRecDepth 100000
set_option maxHeartbeats 4000000
/-! Bk84: ints compared, slices from a place on, what is told -/
namespace Bk
open PySem PySem.Spec PyProof.Rows L2
end Bk
set_option Elab.async false
set_option linter.all false
set_option maxRecDepth 100000
set_option maxHeartbeats 4000000
/-! Bk85: trees of a size, chains -/
namespace Bk
open PySem PySem.Spec PyProof.Rows L2
/-! ### trees that grow by one row at the end -/
inductive OfS (a b c : Str) : Tr → Prop where
  | one : OfS a b c [(a, [])]
  | two {t : Tr} : OfS a b c t → OfS a b c (t ++ [(b, [((t.length - 1 : Nat) : Int)])])
  | three {t : Tr} : OfS a b c t → OfS a b c (t ++ [(c, [((t.length - 1 : Nat) : Int), ((t.length - 1 : Nat) : Int)])])
section
variable {a b c : Str} {t : Tr}
theorem OfS.pos (h : OfS a b c t) : 0 < t.length := by
  cases h with
  | one => exact Nat.succ_pos _
  | two _ => rw [List.length_append]; exact Nat.succ_pos _
  | three _ => rw [List.length_append]; exact Nat.succ_pos _
theorem OfS.idx (h : OfS a b c t) : TrIdx t := by
  induction h with
  | one =>
    intro i r hr
    cases i with
    | zero =>
      cases hr
      exact ⟨Nat.zero_le _, fun n hn => (nomatch hn)⟩
    | succ i => cases hr
  | @two t h ih =>
    have p := h.pos
    exact ih.snoc (by show 1 ≤ 2; decide) fun n hn => by rw [List.mem_singleton.1 hn]; omega
  | @three t h ih =>
    have p := h.pos
    refine ih.snoc (by show 2 ≤ 2; decide) fun n hn => ?_
    have e : n = ((t.length - 1 : Nat) : Int) := by
      rcases List.mem_cons.1 hn with e | hn
      · exact e
      · exact List.mem_singleton.1 hn
    rw [e]
    omega
theorem OfS.name (h : OfS a b c t) : ∀ r ∈ t, r.1 = a ∨ r.1 = b ∨ r.1 = c := by
  induction h with
  | one => exact fun r hr => .inl (by rw [List.mem_singleton.1 hr])
  | two _ ih =>
    intro r hr
    rcases List.mem_append.1 hr with hr | hr
    · exact ih r hr
    · exact .inr (.inl (by rw [List.mem_singleton.1 hr]))
  | three _ ih =>
    intro r hr
    rcases List.mem_append.1 hr with hr | hr
    · exact ih r hr
    · exact .inr (.inr (by rw [List.mem_singleton.1 hr]))
theorem top_new {t : Tr} {r : Str × List Int} (h : TrIdx (t ++ [r])) : trA (t ++ [r]) ((t ++ [r]).length - 1) = .node r.1 (r.2.map fun n => trA t n.toNat) := by
  have l : (t ++ [r]).length - 1 = t.length := by rw [List.length_append]; rfl
  have e : (t ++ [r])[t.length]? = some r := by rw [List.getElem?_append_right (Nat.le_refl _), Nat.sub_self]; rfl
  rw [l, trA_at h e]
  congr 1
  refine List.map_congr_left fun n hn => ?_
  have := (h _ _ e).2 n hn
  exact trA_pre (by omega)
theorem top_two {t : Tr} (h : 0 < t.length) (ix : TrIdx t) : trA (t ++ [(b, [((t.length - 1 : Nat) : Int)])]) ((t ++ [(b, [((t.length - 1 : Nat) : Int)])]).length - 1) = .node b [trA t (t.length - 1)] := by
  rw [top_new (ix.snoc (by show 1 ≤ 2; decide) fun n hn => by rw [List.mem_singleton.1 hn]; omega)]
  show PT.node b [trA t (((t.length - 1 : Nat) : Int).toNat)] = _
  rw [Int.toNat_natCast]
theorem OfS.top2 (h : OfS a b c t) : sizeP (trA (t ++ [(b, [((t.length - 1 : Nat) : Int)])]) ((t ++ [(b, [((t.length - 1 : Nat) : Int)])]).length - 1)) = 1 + sizeP (trA t (t.length - 1)) := by
  rw [top_two h.pos h.idx, sizeP_node]
  show 1 + (sizeP _ + 0) = _
  omega
theorem OfS.top3 (h : OfS a b c t) : sizeP (trA (t ++ [(c, [((t.length - 1 : Nat) : Int), ((t.length - 1 : Nat) : Int)])]) ((t ++ [(c, [((t.length - 1 : Nat) : Int), ((t.length - 1 : Nat) : Int)])]).length - 1)) = 1 + 2 * sizeP (trA t (t.length - 1)) := by
  rw [top_new (OfS.three h).idx, sizeP_node]
  show 1 + (sizeP (trA t (((t.length - 1 : Nat) : Int).toNat)) + (sizeP (trA t (((t.length - 1 : Nat) : Int).toNat)) + 0)) = _
  rw [Int.toNat_natCast]
  omega
end
/-! ### sizes on the way to 1 -/
def stepZ (n : Nat) : Nat := if n % 2 = 1 then n / 2 else n - 1
inductive SzL (many : Nat) : List Nat → Prop where
  | one : 1 ≤ many → SzL many [many]
  | step {l : List Nat} {x : Nat} : SzL many (l ++ [x]) → 1 < x → SzL many (l ++ [x] ++ [stepZ x])
theorem SzL.pos {many : Nat} {l : List Nat} (h : SzL many l) : ∀ x ∈ l, 1 ≤ x := by
  induction h with
  | one h => exact fun x hx => by rw [List.mem_singleton.1 hx]; exact h
  | @step l y _ h ih =>
    intro x hx
    rcases List.mem_append.1 hx with hx | hx
    · exact ih x hx
    · rw [List.mem_singleton.1 hx]
      unfold stepZ
      split <;> omega
theorem SzL.head {many : Nat} {l : List Nat} (h : SzL many l) : l.getD 0 0 = many := by
  induction h with
  | one _ => rfl
  | @step l y _ _ ih =>
    cases l with
    | nil => exact ih
    | cons z l => exact ih
theorem SzL.next {many : Nat} {l : List Nat} (h : SzL many l) : ∀ i x, l[i]? = some x → i + 1 < l.length → l[i + 1]? = some (stepZ x) ∧ 1 < x := by
  induction h with
  | one _ => exact fun i x hx hi => absurd hi (by rw [List.length_singleton]; omega)
  | @step l y h hy ih =>
    intro i x hx hi
    have ll : (l ++ [y] ++ [stepZ y]).length = l.length + 2 := by rw [List.length_append, List.length_append]; rfl
    have l1 : (l ++ [y]).length = l.length + 1 := by rw [List.length_append]; rfl
    by_cases c : i + 1 < (l ++ [y]).length
    · rw [List.getElem?_append_left (by omega)] at hx
      rw [List.getElem?_append_left c]
      exact ih i x hx c
    · have e : i = l.length := by omega
      subst e
      rw [List.getElem?_append_left (by omega), List.getElem?_append_right (Nat.le_refl _), Nat.sub_self] at hx
      cases hx
      rw [List.getElem?_append_right (by omega), l1, Nat.sub_self]
      exact ⟨rfl, hy⟩
def phiZ (n : Nat) : Nat := 2 * n.log2 + (if n % 2 = 0 then 1 else 0)
theorem phi_step {n : Nat} (h : 1 < n) : phiZ (stepZ n) < phiZ n := by
  unfold phiZ stepZ
  have n2 : n % 2 = 0 ∨ n % 2 = 1 := by omega
  have lg : n.log2 = (n / 2).log2 + 1 := by
    have h0 : n ≠ 0 := by omega
    have h1 : n / 2 ≠ 0 := by omega
    have a1 := Nat.log2_self_le h1
    have a2 : n / 2 < 2 ^ ((n / 2).log2 + 1) := (Nat.log2_lt h1).1 (Nat.lt_succ_self _)
    have b1 : (n / 2).log2 + 1 ≤ n.log2 := (Nat.le_log2 h0).2 (by rw [Nat.pow_succ]; omega)
    have b2 : n.log2 < (n / 2).log2 + 2 := (Nat.log2_lt h0).2 (by rw [Nat.pow_succ] at a2 ⊢; rw [Nat.pow_succ]; omega)
    omega
  rcases n2 with z | z
  · rw [if_neg (by omega), if_pos z, if_neg (by omega)]
    have : (n - 1).log2 ≤ n.log2 := by
      by_cases e : n - 1 = 0
      · rw [e]; exact Nat.zero_le _
      · have h1 := Nat.log2_self_le e
        exact (Nat.le_log2 (by omega)).2 (by omega)
    omega
  · have zz : ¬ n % 2 = 0 := by omega
    rw [if_pos z, if_neg zz]
    split <;> omega
theorem SzL.phi {many : Nat} {l : List Nat} (h : SzL many l) : ∀ m x, l = m ++ [x] → l.length + phiZ x ≤ 1 + phiZ many := by
  induction h with
  | one _ =>
    intro m x e
    have : m = [] ∧ x = many := by
      cases m with
      | nil => cases e; exact ⟨rfl, rfl⟩
      | cons z m =>
        have := congrArg List.length e
        rw [List.length_append, List.length_singleton, List.length_cons, List.length_singleton] at this
        omega
    rw [this.2]
    exact Nat.le_refl _
  | @step l y h hy ih =>
    intro m x e
    obtain ⟨e1, e2⟩ := List.append_inj' e rfl
    cases e2
    have := ih l y rfl
    have := phi_step hy
    rw [List.length_append, List.length_singleton]
    omega
theorem SzL.len {many : Nat} {l : List Nat} (h : SzL many l) (hm : many < 2 ^ 32) : l.length ≤ 64 := by
  have hp : phiZ many ≤ 63 := by
    unfold phiZ
    have : many.log2 ≤ 31 := by
      by_cases e : many = 0
      · rw [e]; decide
      · exact Nat.le_of_lt_succ ((Nat.log2_lt e).2 hm)
    split <;> omega
  obtain ⟨m, x, e⟩ : ∃ m x, l = m ++ [x] := by
    cases h with
    | one _ => exact ⟨[], _, rfl⟩
    | step _ _ => exact ⟨_, _, rfl⟩
  have := h.phi m x e
  by_cases z : phiZ x = 0
  · omega
  · omega
/-! ### the wood of these trees -/
def woodS (a b c k : Str) : Wd := [(k, [(a, []), (b, [k]), (c, [k, k])])]
section
variable {a b c k : Str}
structure WsOk (a b c k : Str) : Prop where
  names : isName a = true ∧ isName b = true ∧ isName c = true ∧ isName k = true
  nd : a ≠ b ∧ a ≠ c ∧ b ≠ c
theorem WsOk.wood (h : WsOk a b c k) : WoodOk (woodS a b c k) := by
  obtain ⟨⟨ha, hb, hc, hk⟩, n1, n2, n3⟩ := h
  refine ⟨⟨Nat.le_refl 1, (show 1 ≤ 4 by decide)⟩, fun q hq => ?_, List.nodup_cons.2 ⟨fun z => (nomatch z), List.nodup_nil⟩, fun q hq m hm => ?_, ?_, (show 3 ≤ 12 by decide)⟩
  · rw [List.mem_singleton.1 hq]
    exact hk
  · rw [List.mem_singleton.1 hq] at hm
    replace hm : m ∈ [(a, []), (b, [k]), (c, [k, k])] := hm
    simp only [List.mem_cons, List.not_mem_nil, or_false] at hm
    rcases hm with rfl | rfl | rfl
    · exact ⟨ha, Nat.zero_le _, fun s hs => (nomatch hs)⟩
    · exact ⟨hb, (show 1 ≤ 2 by decide), fun s hs => hs⟩
    · refine ⟨hc, Nat.le_refl 2, fun s hs => ?_⟩
      simp only [List.mem_cons, List.not_mem_nil, or_false, or_self] at hs
      rw [hs]
      exact List.mem_cons_self
  · show [a, b, c].Nodup
    simp [n1, n2, n3]
theorem kno_one {a b c k : Str} : kno (woodS a b c k) k = 0 := kno_idx (i := 0) (k := (k, [(a, []), (b, [k]), (c, [k, k])])) (List.nodup_cons.2 ⟨fun z => (nomatch z), List.nodup_nil⟩) rfl
theorem kind_zero {w : Wd} {s : Str} {m : Mk} (h : mkOf w s = some (0, m)) : kindAt w s = 0 := by
  unfold kindAt
  rw [h]
  rfl
theorem WsOk.mks (h : WsOk a b c k) : mkOf (woodS a b c k) a = some (0, (a, [])) ∧ mkOf (woodS a b c k) b = some (0, (b, [k])) ∧ mkOf (woodS a b c k) c = some (0, (c, [k, k])) := by
  have nd := h.wood.nd
  exact ⟨mkOf_mem nd (e := (0, (a, []))) (List.mem_cons_self ..), mkOf_mem nd (e := (0, (b, [k]))) (List.mem_cons_of_mem _ List.mem_cons_self), mkOf_mem nd (e := (0, (c, [k, k]))) (List.mem_cons_of_mem _ (List.mem_cons_of_mem _ List.mem_cons_self))⟩
theorem OfS.kind (h : WsOk a b c k) {t : Tr} (o : OfS a b c t) {n : Nat} {q : Str × List Int} (e : t[n]? = some q) : kindAt (woodS a b c k) q.1 = 0 := by
  obtain ⟨m1, m2, m3⟩ := h.mks
  rcases o.name q (List.mem_of_getElem? e) with z | z | z <;> rw [z]
  · exact kind_zero m1
  · exact kind_zero m2
  · exact kind_zero m3
end
/-! ### chains -/
end Bk
set_option Elab.async false
set_option linter.all false
set_option maxRecDepth 100000
set_option maxHeartbeats 4000000
/-! Bk86: shifts, words spoilt: contracts -/
namespace Bk
open PySem PySem.Spec PyProof.Rows L2
end Bk
set_option Elab.async false
set_option linter.all false
set_option maxRecDepth 100000
set_option maxHeartbeats 4000000
/-! Bk87: words of chains, sizes -/
namespace Bk
open PySem PySem.Spec PyProof.Rows L2
theorem OfS.small {a b c : Str} {t : Tr} (o : OfS a b c t) : ∀ i, i < t.length → sizeP (trA t i) ≤ sizeP (trA t (t.length - 1)) := by
  induction o with
  | one =>
    intro i hi
    have : i = 0 := Nat.lt_one_iff.1 hi
    rw [this]
    exact Int.le_refl _
  | @two t o ih =>
    intro i hi
    have l : (t ++ [(b, [((t.length - 1 : Nat) : Int)])]).length = t.length + 1 := by rw [List.length_append]; rfl
    by_cases c : i < t.length
    · rw [trA_pre c, o.top2]
      have := ih i c
      omega
    · have : i = (t ++ [(b, [((t.length - 1 : Nat) : Int)])]).length - 1 := by omega
      rw [this]
      exact Int.le_refl _
  | @three t o ih =>
    intro i hi
    have l : (t ++ [(c, [((t.length - 1 : Nat) : Int), ((t.length - 1 : Nat) : Int)])]).length = t.length + 1 := by rw [List.length_append]; rfl
    by_cases cc : i < t.length
    · rw [trA_pre cc, o.top3]
      have := ih i cc
      have := size_pos (trA t i)
      omega
    · have : i = (t ++ [(c, [((t.length - 1 : Nat) : Int), ((t.length - 1 : Nat) : Int)])]).length - 1 := by rw [l]; omega
      rw [this]
      exact Int.le_refl _
/-! ### words of chains -/
section
variable {a b c k : Str}
theorem WsOk.due (h : WsOk a b c k) : dueOf (woodS a b c k) (0, (a, [])) = [] ∧ dueOf (woodS a b c k) (0, (b, [k])) = [0] ∧ dueOf (woodS a b c k) (0, (c, [k, k])) = [0, 0] := by
  refine ⟨rfl, ?_, ?_⟩
  · show [kno _ k] = _
    rw [kno_one]
  · show [kno _ k, kno _ k] = _
    rw [kno_one]
end
end Bk
set_option Elab.async false
set_option linter.all false
set_option maxRecDepth 100000
set_option maxHeartbeats 4000000
/-! Bk88: texts of trees: how they are spelled -/
namespace Bk
open PySem PySem.Spec PyProof.Rows L2
/-! ### one sign at a place -/
/-! ### the parser -/
def isLet (c : Nat) : Bool := decide (c ∈ lettersS.cps.toList)
abbrev Ops := List (Str × Nat)
/-! ### contracts -/
abbrev flTT (t b : V) : List (Str × V) := [("text", t), ("begin", b)]
def TxAt (C : Addr) (H : Hp) (p : Addr) (z : Str) (b : Nat) : Prop := ∃ dx, H p = some (.ins C dx (flTT (.str z) (.int (b : Nat))))
theorem TxAt.ex {C : Addr} {H H' : Hp} {p : Addr} {z : Str} {b : Nat} (h : TxAt C H p z b) (e : Ex H H') : TxAt C H' p z b := h.elim fun dx h => ⟨dx, e _ _ h⟩
theorem TxAt.at_upd {C : Addr} {H : Hp} {p q : Addr} {z : Str} {b : Nat} {o : HO} (h : TxAt C H p z b) (n : q ≠ p) : TxAt C (upd H q o) p z b := h.elim fun dx h => ⟨dx, by rw [upd_ne (Ne.symm n)]; exact h⟩
end Bk
set_option Elab.async false
set_option linter.all false
set_option maxRecDepth 100000
set_option maxHeartbeats 4000000
/-! Bk89: texts of trees, how they are read; wider contracts -/
namespace Bk
open PySem PySem.Spec PyProof.Rows L2
/-! ### a tree's text -/
inductive OkP : PT → Prop where
  | node {s : Str} {ps : List PT} : isName s = true → (∀ p ∈ ps, OkP p) → OkP (.node s ps)
theorem OkP.name {s : Str} {ps : List PT} (h : OkP (.node s ps)) : isName s = true := by cases h; assumption
theorem OkP.part {s : Str} {ps : List PT} (h : OkP (.node s ps)) : ∀ p ∈ ps, OkP p := by cases h; assumption
/-! ### a tree's text, gone through -/
def Stop (l : List Nat) : Prop := l = [] ∨ (∃ r, l = 44 :: r) ∨ ∃ r, l = 41 :: r
theorem Stop.head {l : List Nat} (h : Stop l) : ∀ c, l.head? = some c → isLet c = false ∧ c ≠ 40 := by
  rcases h with rfl | ⟨r, rfl⟩ | ⟨r, rfl⟩
  · intro c h; cases h
  · intro c h; cases h; exact ⟨by decide +kernel, by decide⟩
  · intro c h; cases h; exact ⟨by decide +kernel, by decide⟩
/-! ### what the names and counts tell -/
/-! ### alike just where the same -/
end Bk
set_option Elab.async false
set_option linter.all false
set_option maxRecDepth 100000
set_option maxHeartbeats 4000000
/-! Bk90: wider contracts: trees to 3000 rows -/
namespace Bk
open PySem PySem.Spec PyProof.Rows L2
/-- what a tree's rows tell, whatever their names -/
structure TrU (T : PT) (c : Tr) : Prop where
  pos : 0 < c.length
  few : c.length ≤ 3000
  idx : TrIdx c
  top : trA c (c.length - 1) = T
  name : ∀ r ∈ c, TextOk r.1
theorem TrU.plain {T : PT} {c : Tr} (h : TrU T c) : TrU T (plainF c) ∧ plainF c = plT T := by
  have pe := plain_end h.idx h.pos
  have l := pe.le
  have f := h.few
  refine ⟨⟨pe.pos, by omega, pe.idx, (plain_top h.idx h.pos).trans h.top, plain_names h.idx h.pos h.name⟩, ?_⟩
  rw [plainF_eq, h.top]
theorem TrU.row {nm : Str} {ps : List PT} {c : Tr} (h : TrU (.node nm ps) c) : (rowAt c (c.length - 1)).1 = nm ∧ (rowAt c (c.length - 1)).2.map (fun n => trA c n.toNat) = ps ∧ ps.length ≤ 2 := by
  have p := h.pos
  have er := List.getElem?_eq_getElem (l := c) (i := c.length - 1) (by omega)
  have e := h.top
  rw [trA_at h.idx er] at e
  injection e with e1 e2
  have r := rowAt_eq er
  rw [r]
  exact ⟨e1, e2, by rw [← e2, List.length_map]; exact (h.idx _ _ er).1⟩
theorem TrU.part {nm : Str} {ps : List PT} {c : Tr} (h : TrU (.node nm ps) c) : ∀ p ∈ ps, TrU p (plT p) ∧ (plT p).length ≤ c.length := fun p hp => by
  obtain ⟨_, e2, _⟩ := h.row
  rw [← e2] at hp
  obtain ⟨n, hn, rfl⟩ := List.mem_map.1 hp
  have q := h.pos
  have er := List.getElem?_eq_getElem (l := c) (i := c.length - 1) (by omega)
  rw [rowAt_eq er] at hn
  have ix := (h.idx _ _ er).2 n hn
  have l : (c.take (n.toNat + 1)).length = n.toNat + 1 := by rw [List.length_take]; omega
  have f := h.few
  have t : TrU (trA c n.toNat) (c.take (n.toNat + 1)) := ⟨by omega, by omega, h.idx.take _, by rw [l, Nat.add_sub_cancel]; exact trA_take (by omega) (Nat.lt_succ_self _), fun r hr => h.name r (List.mem_of_mem_take hr)⟩
  have z := t.plain
  have pl := (plain_end t.idx t.pos).le
  rw [z.2] at pl
  rw [z.2] at z
  exact ⟨z.1, by omega⟩
theorem TrU.size {T : PT} {c : Tr} (h : TrU T c) : (treeD c).size ≤ 15001 := by
  have := tree_size h.idx
  have := h.few
  omega
/-! ### contracts -/
end Bk
set_option Elab.async false
set_option linter.all false
set_option maxRecDepth 100000
set_option maxHeartbeats 4000000
/-! Bk91: runs of letters -/
namespace Bk
open PySem PySem.Spec PyProof.Rows L2
/-! ### what stands open -/
def OpsAt (p F O : Addr) (H0 H : Hp) : Ops → List Addr → Prop
  | [], [] => True
  | (n, k) :: ops, a :: as => (H a = some (.lst [.str n, .int (k : Nat)]) ∧ a ≠ p ∧ a ≠ F ∧ a ≠ O ∧ H0 a = none ∧ a ∉ as) ∧ OpsAt p F O H0 H ops as
  | _, _ => False
section
variable {p F O : Addr} {H0 H H' : Hp}
theorem OpsAt.keep : ∀ {ops : Ops} {as : List Addr}, OpsAt p F O H0 H ops as → (∀ a, a ∈ as → a ≠ p → a ≠ F → a ≠ O → ∀ l, H a = some (.lst l) → H' a = some (.lst l)) → OpsAt p F O H0 H' ops as
  | [], [], h, _ => h
  | (n, k) :: ops, a :: as, h, q => ⟨⟨q a List.mem_cons_self h.1.2.1 h.1.2.2.1 h.1.2.2.2.1 _ h.1.1, h.1.2⟩, OpsAt.keep h.2 fun b hb => q b (List.mem_cons_of_mem _ hb)⟩
  | [], _ :: _, h, _ => h.elim
  | _ :: _, [], h, _ => h.elim
theorem OpsAt.len : ∀ {ops : Ops} {as : List Addr}, OpsAt p F O H0 H ops as → as.length = ops.length
  | [], [], h => rfl
  | (n, k) :: ops, a :: as, h => congrArg Nat.succ (OpsAt.len h.2)
  | [], _ :: _, h => h.elim
  | _ :: _, [], h => h.elim
theorem OpsAt.but {ops : Ops} {as : List Addr} (h : OpsAt p F O H0 H ops as) (b : But p H H') : OpsAt p F O H0 H' ops as := h.keep fun a _ n _ _ l e => b a _ n e
theorem OpsAt.ex {ops : Ops} {as : List Addr} (h : OpsAt p F O H0 H ops as) (b : Ex H H') : OpsAt p F O H0 H' ops as := h.keep fun a _ _ _ _ l e => b a _ e
theorem OpsAt.mem : ∀ {ops : Ops} {as : List Addr}, OpsAt p F O H0 H ops as → ∀ a ∈ as, ∃ l, H a = some (.lst l)
  | [], [], h, a, ha => nomatch ha
  | (n, k) :: ops, b :: as, h, a, ha => by
    rcases List.mem_cons.1 ha with rfl | ha
    · exact ⟨_, h.1.1⟩
    · exact OpsAt.mem h.2 a ha
  | [], _ :: _, h, _, _ => h.elim
  | _ :: _, [], h, _, _ => h.elim
theorem OpsAt.push {ops : Ops} {as : List Addr} {a : Addr} {n : Str} {k : Nat} (h : OpsAt p F O H0 H ops as) (ha : H a = none) (h1 : a ≠ p) (h2 : a ≠ F) (h3 : a ≠ O) (h4 : H0 a = none) : OpsAt p F O H0 (upd H a (.lst [.str n, .int (k : Nat)])) ((n, k) :: ops) (a :: as) :=
  ⟨⟨upd_same, h1, h2, h3, h4, fun z => by obtain ⟨l, e⟩ := h.mem a z; rw [ha] at e; cases e⟩, h.ex (Ex.new ha)⟩
end
theorem TxAt.tk {C : Addr} {H H' : Hp} {p : Addr} {z : Str} {b : Nat} (h : TxAt C H p z b) (e : But p H H') : Tk H H' := fun a xs ha => e a _ (fun y => by obtain ⟨dx, hh⟩ := h; rw [y, hh] at ha; cases ha) ha
theorem TxAt.ne {C : Addr} {H : Hp} {p q : Addr} {z : Str} {b : Nat} (h : TxAt C H p z b) (e : H q = none) : q ≠ p := fun y => by obtain ⟨dx, hh⟩ := h; rw [y, hh] at e; cases e
end Bk
set_option Elab.async false
set_option linter.all false
set_option maxRecDepth 100000
set_option maxHeartbeats 4000000
/-! Bk92: k13: letters, trees that are told in all forms -/
namespace Bk
open PySem PySem.Spec PyProof.Rows L2
/-! ### trees of a wood stand -/
theorem g_notBl {a b : Bool} {H : Hp} {Q : VK} (q : Q (.bl (!decide (a = b))) H) : L2.rNotB (.bl a) (.bl b) H Q := ⟨a, b, rfl, rfl, q⟩
end Bk
set_option Elab.async false
set_option linter.all false
set_option maxRecDepth 100000
set_option maxHeartbeats 4000000
/-! Bk93: k13: chains in a wood of two makers -/
namespace Bk
open PySem PySem.Spec PyProof.Rows L2
end Bk
set_option Elab.async false
set_option linter.all false
set_option maxRecDepth 100000
set_option maxHeartbeats 4000000
/-! Bk94: k11: the law's own parser; texts that do not close -/
namespace Bk
open PySem PySem.Spec PyProof.Rows L2
/-! ### runs -/
/-! ### what a turn's state tells -/
/-! ### one sign cut out -/
/-! ### what is spelled closes, and a name stands behind each opening -/
/-! ### the text of a chain -/
end Bk
set_option Elab.async false
set_option linter.all false
set_option maxRecDepth 100000
set_option maxHeartbeats 4000000
/-! Bk95: contracts of k11 -/
namespace Bk
open PySem PySem.Spec PyProof.Rows L2
/-! ### texts put together -/
/-! ### contracts -/
end Bk
set_option Elab.async false
set_option linter.all false
set_option maxRecDepth 100000
set_option maxHeartbeats 4000000
/-! Bk96: great ints: str, f-strings, int(text) up to 4,300 figures -/
namespace Bk
open PySem PySem.Spec PyProof.Rows L2
/-! ### rules -/
/-- what the written part says: the limit on figures is the usual one -/
structure Lim (K : PySem.W.Frag) : Prop where
  ok : PySem.W.nsOkIn K cStatics = true
  no : PySem.W.nsIn K cStatics "sys.int_max_str_digits" = some none
theorem Lim.none {K : PySem.W.Frag} {h : Heap} (L : Lim K) (X : K.In h) : h.NoDigits :=
  ⟨_, .of_isNs (PySem.W.isNs_of_in X L.ok), PySem.W.nsMap_none_of_in X L.ok L.no⟩
end Bk
set_option Elab.async false
set_option linter.all false
set_option maxRecDepth 100000
set_option maxHeartbeats 4000000
/-! Bk97: k02: fractions' texts by own reading -/
namespace Bk
open PySem PySem.Spec PyProof.Rows L2
/-! ### figures written back -/
/-! ### parted again -/
/-! ### contracts -/
end Bk
set_option Elab.async false
set_option linter.all false
set_option maxRecDepth 100000
set_option maxHeartbeats 4000000
/-! Bk120: len, ==, str by own methods. -/
namespace Bk
open PySem PySem.Spec PyProof.Rows L2
section
variable {X : Cx} {CX : CXT} {k : Nat} {f C : Addr} {fd : FuncData} {ps : List Str} {sp : Sp} {E : XK}
/-- an own method called within a built-in one -/
theorem run_own {A : Around} (hA : A.frames = X.A.frames) {pins : List (Addr × Obj)} {σ : L2.St} {H : Hp} {s : Shared} {Q : VK} {us : List Value} {vs : List V} (F : FnOk X.prog X.w X.K X.mg X.base CX k f fd ps sp) (hr : Room k A) (hb : Binds X.K fd ps []) (hx : PassesAt CX X σ E) (I : Inv X pins σ H s) (r : Vals vs us) (h : sp vs H Q E) :
    wpAny (model X.prog X.w) A (call (.ref f) us) (EP X pins σ Q) X.xe s := by
  have hl : us.length = ps.length := by rw [← r.length]; exact F.len _ _ _ _ h
  have e0 : Env0 X.prog X.w X.K X.mg X.base A X.stack s H := by
    have e := I.env0
    exact ⟨by rw [hA]; exact e.frames, e.mod, e.bs, e.bsz, e.funs, e.frf, e.hok, e.bare⟩
  refine wpAny_call (codeAny_mono (F.run A X.stack s H ⟨us, []⟩ us vs Q E hr e0 (by
    have := hb s us I.kIn (by simpa using hl)
    simpa using this) r h) fun r' s' hq => ?_)
  cases r' with
  | error e => exact hx pins H s e s' I hq
  | ok fl =>
    cases fl with
    | ret u => exact I.after hq
    | next => exact False.elim hq
    | brk => exact False.elim hq
    | cont => exact False.elim hq
def uLenO (C : Addr) (sp : Sp) (E : XK) : List V → Hp → VK → Prop := fun vs H Q => ∃ a dx fs, vs = [.ref a] ∧ H a = some (.ins C dx fs) ∧ sp [.ref a] H (fun v H2 => ∃ n : Int, v = .int n ∧ (0 ≤ n ∧ n < 2 ^ 63) ∧ Q (.int n) H2) E
theorem uk_lenO (F : FnOk X.prog X.w X.K X.mg X.base CX k f fd ps sp) (hs : PySem.W.findIn X.K (.ref C) "__len__" = some (some (.ref f))) (hf : PySem.W.isFn X.K (.ref f) = true) (hr : Room (k + 1) X.A) (hb : Binds X.K fd ps []) (hx : ∀ σ, PassesAt CX X σ E) : CallR X (.builtin "len") (uLenO C sp E) := by
  intro pins s σ H xs us Q I r h
  obtain ⟨a, dx, fs, rfl, ha, hsp⟩ := h
  obtain ⟨u, rfl, ru⟩ := vals1 r
  obtain rfl : u = Value.ref a := ru
  obtain ⟨mA, J, _⟩ := ins_get I.hok ha
  obtain ⟨od, J, _⟩ := J.look
  obtain ⟨m, hF⟩ := I.fr
  refine PySem.W.len_K hF I.ok.mod.kin J hs hf (wpAny_mono (run_own (A := X.A.in1) (vs := [.ref a]) (us := [.ref a]) rfl F hr.in1 hb (hx σ) I (.cons rfl .nil) hsp) (fun v s' q => ?_) fun _ _ y => y)
  obtain ⟨z, H', I', rz, n, ez, hn, q⟩ := q
  subst ez
  obtain ⟨t, rfl⟩ := rz
  exact ⟨hn, .int n, H', I'.tok _, ⟨_, rfl⟩, q⟩
end
/-! ### // of wide numbers by wide numbers -/
/-- // of anything below 2 ^ 13000 -/
def CFdW (i j : Int) : Prop := j ≠ 0 ∧ i.natAbs.log2 < 13000
theorem noPylong_x {x y : Int} (h : x.natAbs.log2 < 13000) : Builtin.divisionGoesByPylong x y = false := by
  have key : (if x == 0 then 0 else x.natAbs.log2 / 30 + 1) ≤ 434 := by
    by_cases hx : (x == 0) = true
    · rw [if_pos hx]; exact Nat.zero_le _
    · rw [if_neg hx]; omega
  show (decide ((if y == 0 then 0 else y.natAbs.log2 / 30 + 1) > 300) && decide ((if x == 0 then 0 else x.natAbs.log2 / 30 + 1) > (if y == 0 then 0 else y.natAbs.log2 / 30 + 1) + 150)) = false
  generalize (if x == 0 then 0 else x.natAbs.log2 / 30 + 1) = a at key
  generalize (if y == 0 then 0 else y.natAbs.log2 / 30 + 1) = b
  by_cases hb : b > 300
  · rw [decide_eq_false (p := a > b + 150) (by omega), Bool.and_false]
  · rw [decide_eq_false hb, Bool.false_and]
section
variable {X : Cx}
theorem op_fdW : OpR X (binaryOp .FloorDiv) (rI CFdW fun i j => .int (i.fdiv j)) := opI fun i j _ _ _ _ _ hc q => floordiv_int hc.1 q (.inl (noPylong_x hc.2))
abbrev uFdW : R2 := uI CFdW fun i j => .int (i.fdiv j)
theorem uo_fdW : OpR X (binaryOp .FloorDiv) uFdW := ui_of op_fdW
end
theorem Bits.fdW {n : Nat} {i j : Int} (h : Bits n i) (h0 : j ≠ 0) (hn : n ≤ 13000 := by decide) (hp : 0 < n := by decide) : CFdW i j := by
  refine ⟨h0, ?_⟩
  by_cases c : i.natAbs = 0
  · rw [c]
    decide
  · exact Nat.lt_of_lt_of_le ((Nat.log2_lt c).2 h) hn
def spFracW : Sp := fun vs H Q _ => ∃ u l : Int, vs = [.int u, .int l] ∧ 0 < l ∧ Bits 13000 u ∧ Bits 11000 l ∧ ∀ p, H p = none → Q (.ref p) (upd H p (.tup [.int (lowF u l).1, .int (lowF u l).2]))
end Bk
set_option Elab.async false
set_option linter.all false
set_option maxRecDepth 100000
set_option maxHeartbeats 4000000
/-! Bk121: x == y by an own method, y of any kind; isinstance by an own class; f[k](..) where f[k] is one of some defs -/
namespace Bk
open PySem PySem.Spec PyProof.Rows L2
section
variable {X : Cx} {CX : CXT} {k : Nat} {f C : Addr} {fd : FuncData} {ps : List Str} {sp : Sp} {E : XK}
/-- what stands on the right of an own == -/
inductive Rgt (H : Hp) (C : Addr) : V → Prop where
  | ins {b dy : Addr} {gs : List (Str × V)} (h : H b = some (.ins C dy gs)) : Rgt H C (.ref b)
  | lst {b : Addr} {xs : List V} (h : H b = some (.lst xs)) : Rgt H C (.ref b)
  | tup {b : Addr} {xs : List V} (h : H b = some (.tup xs)) : Rgt H C (.ref b)
  | int (i : Int) : Rgt H C (.int i)
/-- facts of an own class, for == and isinstance -/
structure Oth (K : PySem.W.Frag) (C : Addr) : Prop where
  nl : PySem.W.subIn K (.type "list") (.ref C) = some false
  nt : PySem.W.subIn K (.type "tuple") (.ref C) = some false
  ni : PySem.W.subIn K (.type "int") (.ref C) = some false
  ha : PySem.W.findIn K (.ref C) "__class__" = some (some (.builtin "object.__class__"))
  hn : PySem.W.specialIn K (.builtin "object.__class__") "__get__" = some (some (.builtin "getset_descriptor.__get__"))
  htk : PySem.W.takesIn K (.builtin "object.__class__") = some true
  hm : PySem.W.mroIn K C (.type "object") = some true
  me : PySem.W.kitOne K (.ref C) (.ref C) = some true
  ml : PySem.W.kitOne K (.type "list") (.ref C) = some false
  mt : PySem.W.kitOne K (.type "tuple") (.ref C) = some false
  mi : PySem.W.kitOne K (.type "int") (.ref C) = some false
theorem kit_ty2 {K : PySem.W.Frag} {D : Addr} {T : String} {b : Bool} (h : PySem.W.subIn K (.type T) (.ref D) = some b) (hi : PySem.W.isClsIn K D = true) (ht : PySem.W.typeIn K (.ref D) = some (.type "type")) : PySem.W.kitOne K (.type T) (.ref D) = some b := by
  unfold PySem.W.kitOne
  rw [if_neg (show ¬ (Value.type T == Value.ref D) = true from fun z => by have := beq_iff_eq.mp z; cases this)]
  have z : ((PySem.W.clsIn K D).isSome && PySem.W.typeIn K (.ref D) == some (.type "type")) = true := by
    have z1 : (PySem.W.clsIn K D).isSome = true := hi
    rw [z1, ht] <;> rfl
  show (if ((PySem.W.clsIn K D).isSome && PySem.W.typeIn K (.ref D) == some (.type "type")) = true then PySem.W.subIn K (.type T) (.ref D) else none) = some b
  rw [if_pos z]
  exact h
theorem Oth.of {K : PySem.W.Frag} {C : Addr} (nl : PySem.W.subIn K (.type "list") (.ref C) = some false) (nt : PySem.W.subIn K (.type "tuple") (.ref C) = some false) (ni : PySem.W.subIn K (.type "int") (.ref C) = some false)
    (ha : PySem.W.findIn K (.ref C) "__class__" = some (some (.builtin "object.__class__"))) (hn : PySem.W.specialIn K (.builtin "object.__class__") "__get__" = some (some (.builtin "getset_descriptor.__get__"))) (htk : PySem.W.takesIn K (.builtin "object.__class__") = some true)
    (hm : PySem.W.mroIn K C (.type "object") = some true) (hi : PySem.W.isClsIn K C = true) (ht : PySem.W.typeIn K (.ref C) = some (.type "type")) : Oth K C :=
  ⟨nl, nt, ni, ha, hn, htk, hm, by unfold PySem.W.kitOne; rw [if_pos (by simp)], kit_ty2 nl hi ht, kit_ty2 nt hi ht, kit_ty2 ni hi ht⟩
theorem looks_is {M : Model} {s : Shared} {v : Value} {T : String} (h : s.TypeIs v T) (hr : ∃ a, v = .ref a) : PySem.W.Looks M s.heap (typeOf v) (.type T) := by
  obtain ⟨a, rfl⟩ := hr
  obtain ⟨o, ho, hc⟩ := h
  exact fun A Q E s' k q => wpAny_typeOf ⟨o, k _ _ ho, hc⟩ q
def rEqM (C : Addr) (sp : Sp) (E : XK) : R2 := fun x y H Q => ∃ a dx fs, x = .ref a ∧ H a = some (.ins C dx fs) ∧ Rgt H C y ∧ sp [.ref a, y] H (fun v H2 => ∃ z : Bool, v = .bl z ∧ Q (.bl z) H2) E
theorem op_eqM (F : FnOk X.prog X.w X.K X.mg X.base CX k f fd ps sp) (o : Oth X.K C) (M : Meth X.K C "__eq__" f) (hr : Room k X.A) (hb : Binds X.K fd ps []) (hx : ∀ σ, PassesAt CX X σ E) : OpR X (compareOp .Eq) (rEqM C sp E) := by
  intro pins s σ H x y v u Q I rx ry hq
  obtain ⟨a, dx, fs, rfl, ha, hy, hsp⟩ := hq
  cases rx
  obtain ⟨mA, J, _⟩ := ins_get I.hok ha
  obtain ⟨od, J, _⟩ := J.look
  obtain ⟨m, hF⟩ := I.fr
  have key : ∃ tb, PySem.W.Looks (model X.prog X.w) s.heap (typeOf u) tb ∧ PySem.W.notFirst X.K C tb = true := by
    cases hy with
    | ins hb' =>
      cases ry
      obtain ⟨mB, J', _⟩ := ins_get I.hok hb'
      obtain ⟨od', J', _⟩ := J'.look
      exact ⟨_, J'.type, by simp [PySem.W.notFirst]⟩
    | lst hb' =>
      cases ry
      obtain ⟨its, n, _, e, _⟩ := I.lst hb'
      exact ⟨_, looks_is (T := "list") ⟨_, e, rfl⟩ ⟨_, rfl⟩, by simp [PySem.W.notFirst, o.nl]⟩
    | tup hb' =>
      cases ry
      obtain ⟨its, _, ⟨ob, e, hc, _⟩, _⟩ := I.tuple (sqT hb')
      exact ⟨_, looks_is (T := "tuple") ⟨_, e, hc⟩ ⟨_, rfl⟩, by simp [PySem.W.notFirst, o.nt]⟩
    | int i =>
      obtain ⟨t, rfl⟩ := ry
      exact ⟨.type "int", fun A Q E s' k q => wpAny_typeOf (typeIs_int s' _ t) q, by simp [PySem.W.notFirst, o.ni]⟩
  obtain ⟨tb, L, hn⟩ := key
  show wpAny (model X.prog X.w) X.A (richCompare .Eq (.ref a) u) (EP X pins σ Q) X.xe s
  refine PySem.W.cmp_K (op := .Eq) (tb := tb) hr.units0 hF I.ok.mod.kin J L hn M.at_ M.fn ?_
  refine wpAny_mono (run_own (A := X.A) (vs := [.ref a, y]) (us := [.ref a, u]) rfl F hr hb (hx σ) I (.cons rfl (.cons ry .nil)) hsp) (fun v s' q => ?_) fun _ _ y => y
  obtain ⟨z, H', I', rz, n, ez, q⟩ := q
  subst ez
  cases (show v = Value.bool n from rz)
  exact ⟨.bl n, H', I', rfl, q⟩
/-- isinstance(x, C) -/
def uIsM (C : Addr) : List V → Hp → VK → Prop := fun xs H Q => ∃ x b, xs = [x, .ref C] ∧ ((∃ a dx fs, x = .ref a ∧ H a = some (.ins C dx fs) ∧ b = true) ∨ (∃ a xs, x = .ref a ∧ (H a = some (.lst xs) ∨ H a = some (.tup xs)) ∧ b = false) ∨ (∃ i, x = .int i ∧ b = false)) ∧ Q (.bl b) H
theorem uk_isM (o : Oth X.K C) (c : Cls X.K C) : CallR X (.builtin "isinstance") (uIsM C) := by
  intro pins s σ H xs us Q I r h
  obtain ⟨x, b, rfl, hx, q⟩ := h
  obtain ⟨u, w', rfl, ru, rw'⟩ := vals2 r
  cases rw'
  rcases hx with ⟨a, dx, fs, rfl, ha, rfl⟩ | ⟨a, xs, rfl, ha | ha, rfl⟩ | ⟨i, rfl, rfl⟩
  · exact isinst_ok I ru (TyOf.ins ha c o.ha o.hn o.htk o.hm) o.me fun tk => ⟨.bl true, H, I.tok _, rfl, q⟩
  · exact isinst_ok I ru (TyOf.lst ha) o.ml fun tk => ⟨.bl false, H, I.tok _, rfl, q⟩
  · exact isinst_ok I ru (TyOf.tup ha) o.mt fun tk => ⟨.bl false, H, I.tok _, rfl, q⟩
  · exact isinst_ok I ru (TyOf.int i) o.mi fun tk => ⟨.bl false, H, I.tok _, rfl, q⟩
end
/-! ### f[k](..), f[k] one of some defs -/
end Bk
set_option Elab.async false
set_option linter.all false
set_option maxRecDepth 100000
set_option maxHeartbeats 4000000
/-! Bk139: a lambda with parameters is run; sorted(xs, key=lambda ..) over the layer. -/
namespace Bk
open PySem PySem.Spec PyProof.Rows L2
/-- the object at a is this one -/
def PinO (a : Addr) (o : Obj) : HO := .ext fun h => h.get? a = some o
theorem pinO_ok {P : Program} {w : World} {H : Hp} {h : Heap} {a : Addr} {o : Obj} (e : h.get? a = some o) : ObjOk P w H h a (PinO a o) := ⟨e, ⟨o, e⟩, fun h1 h2 z k => k _ z⟩
theorem pinO_at {P : Program} {w : World} {H : Hp} {h : Heap} {a : Addr} {o : Obj} (hok : HOk P w H h) (e : H a = some (PinO a o)) : h.get? a = some o := by
  have x : ObjOk P w H h a (.ext fun h => h.get? a = some o) := hok a _ e
  exact x.1
/-! ### a lambda is called -/
theorem run_lam {CX : CXT} {P : Program} {w : World} {K : PySem.W.Frag} {mg : Str → Option Value} {base : Heap} {k : Nat} {f c' : Addr} {qual : Str} {params : Arguments} {body : Expr} {scope : Scope} {pm ctv : Value} {N ps : List Str}
    {A : Around} {outer : List Env} {s : Shared} {H : Hp} {args : Args} {us : List Value} {vs : List V} {Q : VK} {E : XK} (hf : s.heap.get? f = some (PySem.W.kla_obj "<lambda>" qual params body scope [] pm c' ctv)) (hcd : s.heap.CodeRec (.ref c') qual) (S : FnScope N ps scope)
    (hr : Room (k + 1) A) (e0 : Env0 P w K mg base A outer s H) (hb : bindArgs (PySem.W.kla_fn "<lambda>" qual params body scope [] pm (.ref c') ctv) args = pure (ps.zip us)) (r : Vals vs us) (hl : vs.length = ps.length)
    (hbody : Room k (A.deeper (envOfC qual scope s.heap.objs.size f (.ref c'))) → ∃ t, PE (cxOf CX P w K mg base N qual scope f (.ref c') A outer s H E) body t ∧ t (L2.start N vs) H Q) :
    codeAny (model P w) A (.call (.ref f) args) (CR CX outer P w H s Q E) s := by
  have lim : s.heap.NoLimit := e0.mod.nolimit.keeps fun b o e => (e0.bs b o e).1
  have hkind : ∀ y ∈ ps.zip us, scope.names.lookup y.1 = some .local ∨ (scope.names.lookup y.1 = some .cell ∧ ((cellsFrom (s.heap.objs.size + 1) scope.names []).lookup y.1).isSome = true) := fun ⟨n, v⟩ hy => by
    rcases S.par n (List.of_mem_zip hy).1 with q | q
    · exact .inl q
    · exact .inr ⟨q, PySem.W.cellsFrom_some _ _ _ (.inl q)⟩
  refine PySem.W.kla_callFunE hr.depth hf rfl S.co S.gen rfl hcd ?_
  rw [hb]
  refine wpAny_pure (wpAny_newFunctionEnv_cells S.kind hkind fun env he s1 x => ?_)
  subst he
  refine ⟨lim.keeps x.toInCall.keep, ?_⟩
  obtain ⟨t, ht, hq⟩ := hbody (hr.deeper _)
  have I : Inv (cxOf CX P w K mg base N qual scope f (.ref c') A outer s H E) [] (L2.start N vs) H s1 := inv_start S hr.hd e0 hl r x
  refine PySem.W.kla_codeExpr (wpAny_mono (ht.run [] s1 (L2.start N vs) H Q I hq) (fun u s' hs => ?_) fun e s' hs => hs)
  obtain ⟨v, H', J, rv, q⟩ := hs
  exact ⟨v, H', J.os, J.bare, J.base, J.hok, rv, q⟩
/-! ### sorted(xs, key=f) -/
section
open PySem.W
variable {prog : Program} {w : World} {A : Around} {E : Value → Shared → Prop} {s : Shared} {a kS : Addr} {vs : List Value} {keys : Array Value} {e e1 : Nat} {P : PySem.Fin → Shared → Prop}
theorem sk_tail {st : SortSt} {out : List Value} (nk : s.heap.get? kS = some (seqObj "list" keys e)) (na : s.heap.get? a = some (seqObj "list" #[] e1)) (hka : kS ≠ a)
    (hsz : keys.size ≤ sizeLine) (hz : out.length ≤ sizeLine) (hfl : failedOf st = none) (ho : (arrOf st).map (·.2) = out.toArray)
    (h : P (.done (.ret .none)) { s with heap := (s.heap.update kS (Obj.mapSeq fun _ => (#[] : Array Value))).update a (Obj.mapSeq fun _ => out.toArray) }) :
    wpAny (model prog w) A (ksk_tail a false e1 (.ref kS) st) P E s := by
  have s1 := Heap.SameBut.update s.heap kS (Obj.mapSeq fun _ => (#[] : Array Value))
  have na1 : (s.heap.update kS (Obj.mapSeq fun _ => (#[] : Array Value))).get? a = some (seqObj "list" #[] e1) := (s1.2 a hka.symm).trans na
  have hz2 : out.toArray.size ≤ sizeLine + 1 := by
    rw [List.size_toArray]
    exact Nat.le_succ_of_le hz
  unfold ksk_tail
  try dsimp only
  simp only [Bool.false_eq_true, if_false]
  rw [ho]
  refine wpAny_bind (listUpdate_at nk rfl ?_ hsz (Nat.zero_le _))
  refine wpAny_bind (wpAny_letGo ?_)
  refine wpAny_bind (seqEpoch_at na1 rfl ?_)
  refine wpAny_bind (listUpdate_at na1 rfl ?_ (Nat.zero_le _) hz2)
  rw [hfl]
  simp only [bne_self_eq_false, Bool.false_eq_true, if_false]
  exact wpAny_pure h
theorem sk_end {κ : PyProof.Rows.KeyKind} (nk : s.heap.get? kS = some (seqObj "list" keys e)) (na : s.heap.get? a = some (seqObj "list" #[] e1)) (hka : kS ≠ a)
    (S : SortsAt prog w A s κ keys.toList) (hsz : keys.size = vs.length) (hZ : vs.length ≤ sizeLine)
    (h : P (.done (.ret .none)) { s with heap := (s.heap.update kS (Obj.mapSeq fun _ => (#[] : Array Value))).update a (Obj.mapSeq fun _ => (sortVals κ false keys.toList vs).toArray) }) :
    wpAny (model prog w) A (ksk_end a false vs.toArray e1 (.ref kS) keys) P E s := by
  obtain ⟨kd, h1, h2⟩ := S.kind
  have hkl : keys.toList.length = vs.length := by
    rw [Array.length_toList]
    exact hsz
  have hK : PyProof.Rows.KeysOf κ (keys.zip vs.toArray) := keysOf_zip S.keys
  have hol : (sortVals κ false keys.toList vs).length = vs.length := sortVals_length false hkl
  have hss : (keys.zip vs.toArray).size = vs.length := by rw [Array.size_zip, hsz, List.size_toArray, Nat.min_self]
  have fin : ∀ st' : SortSt, (arrOf st').Perm (keys.zip vs.toArray) → SortedToK κ (arrOf st') (keys.zip vs.toArray).size →
      Stable κ (arrOf st') (keys.zip vs.toArray) → (arrOf st').map (·.2) = (sortVals κ false keys.toList vs).toArray := by
    intro st' hp hs ht
    have e := sort_out (rev := false) (keys := keys) (items := vs.toArray) (xs := arrOf st') (κ := κ) hK hp hs ht
    have e' := congrArg List.toArray e
    simp only [Bool.false_eq_true, if_false] at e'
    rw [Array.toArray_toList] at e'
    exact e'
  unfold ksk_end
  try dsimp only
  simp only [Bool.false_eq_true, if_false]
  by_cases hl2 : vs.toArray.size < 2
  · rw [if_pos hl2, if_pos hl2]
    refine wpAny_bind (wpAny_pure ?_)
    rw [StateT.run_pure]
    refine wpAny_bind (wpAny_pure ?_)
    try dsimp only
    refine sk_tail (st := SortSt.mk' general' (keys.zip vs.toArray) #[] 7 none) nk na hka (by rw [hsz]; exact hZ) (by rw [hol]; exact hZ) rfl (fin _ (Array.Perm.refl _) ?_ (Stable.refl _)) h
    intro i j hij hj
    rw [hss] at hj
    rw [List.size_toArray] at hl2
    have : i = j := by omega
    subst this
    exact KeyOrd.kle_refl _
  · rw [if_neg hl2, if_neg hl2]
    rw [List.size_toArray] at hl2
    refine wpAny_bind (h2 (by omega) _ ?_)
    refine wpAny_bind (wpAny_mono (H.wpS_sortRunsSt (κ := κ) (kd := kd) (a₀ := keys.zip vs.toArray)
      (st := SortSt.mk' kd (keys.zip vs.toArray) #[] 7 none)
      (Q := fun _ st' => failedOf st' = none ∧ (arrOf st').map (·.2) = (sortVals κ false keys.toList vs).toArray)
      h1 hK ⟨Array.Perm.refl _, rfl, rfl⟩ rfl (Stable.refl _) (by rw [hss]; omega) fun st' a1 a2 a3 a4 => ⟨a2, fin st' a1 a3 a4⟩) ?_ fun _ _ e => e)
    rintro ⟨⟨⟩, st'⟩ s' ⟨rfl, hf, ho⟩
    try dsimp only at ho ⊢
    exact sk_tail nk na hka (by rw [hsz]; exact hZ) (by rw [hol]; exact hZ) hf ho h
end
/-- xs sorted by the keys ds -/
noncomputable def byKey (xs : List V) (ds : List D) : List V := ((xs.zip ds).mergeSort (PySem.W.dataLe false fun p : V × D => p.2.pd)).map Prod.fst
theorem each_vals : ∀ {us : List Value} {ps : List (V × D)}, PySem.W.EachIs (fun u (p : V × D) => RelV p.1 u) us ps → Vals (ps.map Prod.fst) us
  | _, _, .nil => .nil
  | _, _, .cons r t => .cons r (each_vals t)
theorem vals_each : ∀ {xs : List V} {us : List Value} {ds : List D}, Vals xs us → ds.length = xs.length → PySem.W.EachIs (fun u (p : V × D) => RelV p.1 u) us (xs.zip ds)
  | _, _, [], .nil, _ => .nil
  | _, _, d :: ds, .cons r t, h => .cons r (vals_each t (by simpa using h))
theorem zip_pd : ∀ {xs : List V} {ds : List D}, ds.length = xs.length → (xs.zip ds).map (fun p : V × D => p.2.pd) = ds.map D.pd
  | [], [], _ => rfl
  | x :: xs, d :: ds, h => by
    simp only [List.zip_cons_cons, List.map_cons]
    rw [zip_pd (by simpa using h)]
  | _ :: _, [], h => by cases h
  | [], _ :: _, h => by cases h
section
open PySem.W
variable {X : Cx} {pins : List (Addr × Obj)} {σ : L2.St} {H : Hp} {s : Shared} {f l : Addr} {fo : Obj} {xs : List V} {ds : List D} {E : Value → Shared → Prop} {Q : Value → Shared → Prop}
theorem each_mapD {R : Value → D → Prop} {R' : Value → PyData → Prop} (f : ∀ u d, R u d → R' u d.pd) : ∀ {us : List Value} {ds : List D}, PySem.W.EachIs R us ds → PySem.W.EachIs R' us (ds.map D.pd)
  | _, _, .nil => .nil
  | _, _, .cons r t => .cons (f _ _ r) (each_mapD f t)
theorem vals_at : ∀ {xs : List V} {us : List Value} {i : Nat} {u : Value}, Vals xs us → us[i]? = some u → ∃ x, xs[i]? = some x ∧ RelV x u
  | _, _, _, _, .nil, h => by simp at h
  | _, _, 0, _, .cons r _, h => by
    simp at h
    exact ⟨_, rfl, h ▸ r⟩
  | _, _, i + 1, _, .cons _ t, h => by
    obtain ⟨x, e, r⟩ := vals_at (i := i) t (by simpa using h)
    exact ⟨x, by simpa using e, r⟩
/-- the keys are made, one behind another; then the list is laid -/
theorem sk_rest {B : Around} {a kS : Addr} {e1 : Nat} {H0 H1 : Hp} {its : List Value} {P : PySem.Fin → Shared → Prop} (I : Inv X pins σ H1 s) (x1 : Ex H0 H1) (na : H0 a = none) (nk : H0 kS = none) (ha : H1 a = some (PinO a (seqObj "list" #[] e1))) (hk : H1 kS = some (PinO kS (seqObj "list" #[] 0))) (hka : kS ≠ a)
    (hf : s.heap.get? f = some fo) (nf : H1 f = none) (r : Vals xs its) (hZ : its.length ≤ sizeLine) (hlen : ds.length = xs.length) (hard : ∀ d ∈ ds, d.hard = true) (hal : AllAlike (ds.map D.pd)) (hsk : Sortable (ds.map D.pd)) (hu : ∀ d ∈ ds, B.units + d.pd.depth < cLine)
    (turn : ∀ (i : Nat) (x : V) (u : Value) (d : D), xs[i]? = some x → ds[i]? = some d → RelV x u → ∀ (Hi : Hp) (s' : Shared), Inv X pins σ Hi s' → Ex H0 Hi → s'.heap.get? f = some fo → Hi f = none →
      wpAny (model X.prog X.w) B (call (.ref f) [u]) (fun v s'' => ∃ H'', Inv X pins σ H'' s'' ∧ Ex Hi H'' ∧ s''.heap.get? f = some fo ∧ H'' f = none ∧ ∃ kv, RelV kv v ∧ Rep H'' d kv) (fun _ _ => False) s')
    (h : ∀ (H' : Hp) (s' : Shared), Inv X pins σ H' s' → Ex H0 H' → H' a = some (.lst (byKey xs ds)) → P (.done (.ret .none)) s') :
    wpAny (model X.prog X.w) B (ksk_rest a (.ref f) false its.toArray e1 (.ref kS)) P E s := by
  have hL : its.length = xs.length := r.length.symm
  unfold ksk_rest
  refine wpAny_bind (wpAny_rule ?_)
  first
    | rw [List.forIn_toArray]
    | (rw [← Array.forIn_toList]; simp only [List.toList_toArray])
    | rw [← Array.forIn_toList]
  refine wpAny_bind (ksk_fold (fun i s' => ∃ Hi kA e, Inv X pins σ Hi s' ∧ Ex H0 Hi ∧ Hi a = some (PinO a (seqObj "list" #[] e1)) ∧ Hi kS = some (PinO kS (seqObj "list" kA e)) ∧ s'.heap.get? f = some fo ∧ Hi f = none ∧ EachIs (fun v d => d.hard = true ∧ ∃ kv, RelV kv v ∧ Rep Hi d kv) kA.toList (ds.take i)) its 0 s
    ⟨H1, #[], 0, I, x1, ha, hk, hf, nf, by rw [List.take_zero]; exact EachIs.nil⟩ ?step ?done)
  case step =>
    rintro j u s' hx ⟨Hi, kA, e, J, xi, ai, ki, fi, ni, hks⟩
    simp only [Nat.zero_add] at hks ⊢
    have hj : j < its.length := (List.getElem?_eq_some_iff.mp hx).1
    obtain ⟨d, hd⟩ : ∃ d, ds[j]? = some d := ⟨_, List.getElem?_eq_getElem (by omega)⟩
    obtain ⟨x, hxx, rx⟩ := vals_at r hx
    have hz : kA.size ≤ its.length := by
      have h1 := hks.length
      rw [Array.length_toList, List.length_take] at h1
      omega
    refine wpAny_bind (wpAny_attempt (wpAny_mono (turn j x u d hxx hd rx Hi s' J xi fi ni) (fun v s'' he => ?_) fun _ _ hF => hF.elim))
    obtain ⟨H2, J2, x2, f2, n2, kv, rk, pk⟩ := he
    obtain ⟨hh, gg, dd, tt, os⟩ := s''
    try dsimp only at f2 ⊢
    have k2 := x2 _ _ ki
    have a2 := x2 _ _ ai
    have nk2 : hh.get? kS = some (seqObj "list" kA e) := pinO_at J2.hok k2
    have s1 := Heap.SameBut.update hh kS (Obj.mapSeq (·.push v))
    obtain ⟨c2, hc2⟩ : ∃ c2, (hh.update kS (Obj.mapSeq (·.push v))).get? kS = some (seqObj "list" (kA.push v) c2) := ⟨_, get?_update_seq nk2 (·.push v)⟩
    have fk : f ≠ kS := (ne_of_none k2 n2).symm
    have ek : ds.take (j + 1) = ds.take j ++ [d] := by rw [List.take_add_one, hd]; simp
    have ea : (kA.push v).toList = kA.toList ++ [v] := by simp
    have J3 : Inv X pins σ (upd H2 kS (PinO kS (seqObj "list" (kA.push v) c2))) ⟨hh.update kS (Obj.mapSeq (·.push v)), gg, dd, tt, os⟩ :=
      J2.write (t' := tt) (x := kS) (e := kS) (by rw [k2]; exact True.intro) (.inl rfl) (fun b w hb e => (s1.2 b hb).trans e) ⟨_, hc2⟩ (pinO_ok hc2)
    have tk : Tk H2 (upd H2 kS (PinO kS (seqObj "list" (kA.push v) c2))) := fun b ys e => by
      rw [upd_ne (ne_of e k2 (fun z => by unfold PinO at z; cases z))]
      exact e
    refine wpAny_bind (listUpdate_at nk2 rfl ?_ (Nat.le_trans hz hZ) (Nat.le_trans (Nat.le_of_eq (Array.size_push ..)) (Nat.succ_le_succ (Nat.le_trans hz hZ))))
    refine wpAny_pure ⟨rfl, _, kA.push v, c2, J3, (xi.trans x2).at_new nk, by rw [upd_ne hka.symm]; exact a2, upd_same, (s1.2 f fk).trans f2, by rw [upd_ne fk]; exact n2, ?_⟩
    rw [ea, ek]
    refine each_snoc ⟨hard d (List.mem_of_getElem? hd), kv, rk, Rep.tk tk (hard d (List.mem_of_getElem? hd)) pk⟩ (hks.mono fun v' d' q => ?_)
    obtain ⟨q0, kv', q1, q2⟩ := q
    exact ⟨q0, kv', q1, Rep.tk tk q0 (q2.ex x2)⟩
  case done =>
    rintro s' ⟨Hi, kA, e, J, xi, ai, ki, fi, ni, hks⟩
    have e3 : ds.take (0 + its.length) = ds := List.take_of_length_le (by omega)
    rw [e3] at hks
    obtain ⟨hh, gg, dd, tt, os⟩ := s'
    have hk' : EachIs (fun v k => ∃ as, Reads hh v k as) kA.toList (ds.map D.pd) := each_mapD (fun u d q => by
      obtain ⟨_, kv, q1, q2⟩ := q
      exact Dp.reads J d.pd kv u (Rep.dp q2) q1) hks
    have hsz : kA.size = its.length := by
      have h1 := hks.length
      rw [Array.length_toList] at h1
      omega
    have nk2 : hh.get? kS = some (seqObj "list" kA e) := pinO_at J.hok ki
    have na2 : hh.get? a = some (seqObj "list" #[] e1) := pinO_at J.hok ai
    have ko : KeyedOut false ((xs.zip ds).map fun p : V × D => p.2.pd) its (sortVals (dataKind hh (ds.map D.pd)) false kA.toList its) := by
      rw [zip_pd hlen]
      exact ⟨hh, kA.toList, hal, rfl, hk'⟩
    have out := each_vals (keyedOut_each (R := fun u (p : V × D) => RelV p.1 u) (fun p : V × D => p.2.pd) ko (vals_each r hlen))
    have lo : (sortVals (dataKind hh (ds.map D.pd)) false kA.toList its).length = its.length := sortVals_length false (by rw [Array.length_toList]; exact hsz)
    have s1 := Heap.SameBut.update hh kS (Obj.mapSeq fun _ => (#[] : Array Value))
    obtain ⟨c2, hc2⟩ : ∃ c2, (hh.update kS (Obj.mapSeq fun _ => (#[] : Array Value))).get? kS = some (seqObj "list" #[] c2) := ⟨_, get?_update_seq nk2 fun _ => #[]⟩
    have J1 : Inv X pins σ (upd Hi kS (PinO kS (seqObj "list" #[] c2))) ⟨hh.update kS (Obj.mapSeq fun _ => (#[] : Array Value)), gg, dd, tt, os⟩ :=
      J.write (t' := tt) (x := kS) (e := kS) (by rw [ki]; exact True.intro) (.inl rfl) (fun b w hb e => (s1.2 b hb).trans e) ⟨_, hc2⟩ (pinO_ok hc2)
    have a3 : upd Hi kS (PinO kS (seqObj "list" #[] c2)) a = some (PinO a (seqObj "list" #[] e1)) := by rw [upd_ne hka.symm]; exact ai
    have na3 : (hh.update kS (Obj.mapSeq fun _ => (#[] : Array Value))).get? a = some (seqObj "list" #[] e1) := (s1.2 a hka.symm).trans na2
    refine wpAny_bind (listItems_at nk2 rfl ?_)
    refine sk_end (κ := dataKind hh (ds.map D.pd)) (vs := its) nk2 na2 hka (SortsAt.data (s := ⟨hh, gg, dd, tt, os⟩) hk' hal hsk (fun d hd => by
      obtain ⟨d', hd', rfl⟩ := List.mem_map.mp hd
      exact hu d' hd')) hsz hZ ?_
    have s2 := Heap.SameBut.update (hh.update kS (Obj.mapSeq fun _ => (#[] : Array Value))) a (Obj.mapSeq fun _ => (sortVals (dataKind hh (ds.map D.pd)) false kA.toList its).toArray)
    obtain ⟨c3, hc3⟩ : ∃ c3, ((hh.update kS (Obj.mapSeq fun _ => (#[] : Array Value))).update a (Obj.mapSeq fun _ => (sortVals (dataKind hh (ds.map D.pd)) false kA.toList its).toArray)).get? a = some (seqObj "list" (sortVals (dataKind hh (ds.map D.pd)) false kA.toList its).toArray c3) := ⟨_, get?_update_seq na3 fun _ => (sortVals (dataKind hh (ds.map D.pd)) false kA.toList its).toArray⟩
    refine h (upd (upd Hi kS (PinO kS (seqObj "list" #[] c2))) a (.lst (byKey xs ds))) _ (J1.write (t' := tt) (x := a) (e := a) (by rw [a3]; exact True.intro) (.inl rfl) (fun b w hb e => (s2.2 b hb).trans e) ⟨_, hc3⟩ ⟨?_, _, c3, out, hc3⟩) ((xi.at_new nk).at_new na) upd_same
    have hl := out.length
    show (byKey xs ds).length ≤ _
    unfold byKey
    rw [hl, lo]
    exact hZ
/-- the keys come, one behind another -/
theorem sorted_layer (I : Inv X pins σ H s) (hl : SqL X.K H l xs) (hf : s.heap.get? f = some fo) (nf : H f = none) (hlen : ds.length = xs.length) (hard : ∀ d ∈ ds, d.hard = true) (hal : AllAlike (ds.map D.pd)) (hsk : Sortable (ds.map D.pd)) (hu : ∀ d ∈ ds, X.A.units + 2 + d.pd.depth < cLine)
    (turn : ∀ (i : Nat) (x : V) (u : Value) (d : D), xs[i]? = some x → ds[i]? = some d → RelV x u → ∀ (Hi : Hp) (s' : Shared), Inv X pins σ Hi s' → Ex H Hi → s'.heap.get? f = some fo → Hi f = none →
      wpAny (model X.prog X.w) X.A.in1.in1 (call (.ref f) [u]) (fun v s'' => ∃ H'', Inv X pins σ H'' s'' ∧ Ex Hi H'' ∧ s''.heap.get? f = some fo ∧ H'' f = none ∧ ∃ kv, RelV kv v ∧ Rep H'' d kv) (fun _ _ => False) s')
    (h : ∀ (p : Addr) (H' : Hp) (s' : Shared), Inv X pins σ H' s' → Ex H H' → H p = none → H' p = some (.lst (byKey xs ds)) → Q (.ref p) s') :
    wpAny (model X.prog X.w) X.A (call (.builtin "sorted") [.ref l] [(Str.ofString "key", .ref f)]) Q E s := by
  obtain ⟨its, rv, hp, hz⟩ := I.list hl
  have lits : its.length = xs.length := rv.length.symm
  have hZ : its.length ≤ sizeLine := by rw [lits]; exact hz
  refine sorted_of_sort hp.isList hZ (ksk_s1 _ _) (fun x => ksk_l1 _ _) fun E' => ?_
  rw [ksk_t1]
  obtain ⟨hh, gg, dd, tt, os⟩ := s
  dsimp only at hf
  have hfl : f < hh.objs.size := Heap.lt_size hf
  have na : H (hh.objs.size + 1) = none := I.hok.fresh (Nat.le_succ _)
  have I1 : Inv X pins σ (upd H (hh.objs.size + 1) (PinO (hh.objs.size + 1) (seqObj "list" its.toArray 0))) ⟨copyHeap hh its, gg, dd, tt, os⟩ :=
    I.laid (t' := tt) (fun b o e => copyHeap_old e) (Nat.le_succ _) (pinO_ok (copyHeap_at hh its))
  have hf1 : (copyHeap hh its).get? f = some fo := copyHeap_old hf
  have fa : f ≠ hh.objs.size + 1 := Nat.ne_of_lt (Nat.lt_succ_of_lt hfl)
  have e1' : Ex H (upd H (hh.objs.size + 1) (PinO (hh.objs.size + 1) (seqObj "list" its.toArray 0))) := Ex.new na
  have ha := copyHeap_at hh its
  show wpAny _ _ (ksk_tree (hh.objs.size + 1) (.ref f) false) _ _ ⟨copyHeap hh its, gg, dd, tt, os⟩
  have I1' := I1
  revert I1 hf1 ha
  generalize copyHeap hh its = h1
  intro I1 hf1 ha
  clear I1'
  obtain ⟨ep, ha1⟩ : ∃ ep, (h1.update (hh.objs.size + 1) (Obj.mapSeq fun _ => (#[] : Array Value))).get? (hh.objs.size + 1) = some (seqObj "list" #[] ep) := ⟨_, get?_update_seq ha fun _ => #[]⟩
  have sb1 := Heap.SameBut.update h1 (hh.objs.size + 1) (Obj.mapSeq fun _ => (#[] : Array Value))
  have I2 : Inv X pins σ (upd (upd H (hh.objs.size + 1) (PinO (hh.objs.size + 1) (seqObj "list" its.toArray 0))) (hh.objs.size + 1) (PinO (hh.objs.size + 1) (seqObj "list" #[] ep))) ⟨h1.update (hh.objs.size + 1) (Obj.mapSeq fun _ => (#[] : Array Value)), gg, dd, tt, os⟩ :=
    I1.write (t' := tt) (x := hh.objs.size + 1) (e := hh.objs.size + 1) (by rw [upd_same]; exact True.intro) (.inl rfl) (fun b u hb e => (sb1.2 b hb).trans e) ⟨_, ha1⟩ (pinO_ok ha1)
  have hf2 : (h1.update (hh.objs.size + 1) (Obj.mapSeq fun _ => (#[] : Array Value))).get? f = some fo := (sb1.2 f fa).trans hf1
  have eu : upd (upd H (hh.objs.size + 1) (PinO (hh.objs.size + 1) (seqObj "list" its.toArray 0))) (hh.objs.size + 1) (PinO (hh.objs.size + 1) (seqObj "list" #[] ep)) = upd H (hh.objs.size + 1) (PinO (hh.objs.size + 1) (seqObj "list" #[] ep)) := by
    funext b
    by_cases hb : b = hh.objs.size + 1
    · rw [hb, upd_same, upd_same]
    · rw [upd_ne hb, upd_ne hb, upd_ne hb]
  rw [eu] at I2
  clear eu I1
  unfold ksk_tree
  refine wpAny_bind (listItems_at ha rfl ?_)
  refine wpAny_bind (listUpdate_at ha rfl ?_ (by rw [List.size_toArray]; exact hZ) (Nat.zero_le _))
  refine wpAny_bind (seqEpoch_at ha1 rfl ?_)
  clear ha hf1 sb1
  revert I2 hf2 ha1
  generalize h1.update (hh.objs.size + 1) (Obj.mapSeq fun _ => (#[] : Array Value)) = h2
  intro ha1 I2 hf2
  refine wpAny_bind (wpAny_newTuple ?_ (by show its.length ≤ _; exact hZ))
  refine wpAny_bind (wpAny_newList ?_ (Nat.zero_le _))
  refine wpAny_holding ?_
  have e3 : ∀ b o, h2.get? b = some o → (h2.push (seqObj "tuple" its.toArray 0)).get? b = some o := fun b o e => Heap.get?_push_of_some _ e
  have I3 : Inv X pins σ _ ⟨h2.push (seqObj "tuple" its.toArray 0), gg, dd, tt, os⟩ := I2.kept (t' := tt) e3
  have hf3 := e3 _ _ hf2
  show wpAny _ _ (ksk_rest _ _ _ _ _ (.ref (h2.push (seqObj "tuple" its.toArray 0)).objs.size)) _ _ ⟨(h2.push (seqObj "tuple" its.toArray 0)).push (seqObj "list" #[] 0), gg, dd, tt, os⟩
  have ha3 := e3 _ _ ha1
  clear e3 I2 hf2 ha1
  revert I3 hf3 ha3
  generalize h2.push (seqObj "tuple" its.toArray 0) = h3
  intro I3 hf3 ha3
  have nk : upd H (hh.objs.size + 1) (PinO (hh.objs.size + 1) (seqObj "list" #[] ep)) h3.objs.size = none := I3.hok.fresh (Nat.le_refl _)
  have hka : h3.objs.size ≠ hh.objs.size + 1 := Nat.ne_of_gt (Heap.lt_size ha3)
  have nk0 : H h3.objs.size = none := by
    rw [upd_ne hka] at nk
    exact nk
  have fk : f ≠ h3.objs.size := Nat.ne_of_lt (Heap.lt_size hf3)
  have hk4 : (h3.push (seqObj "list" #[] 0)).get? h3.objs.size = some (seqObj "list" #[] 0) := Heap.get?_push_size _ rfl
  have I4 : Inv X pins σ (upd (upd H (hh.objs.size + 1) (PinO (hh.objs.size + 1) (seqObj "list" #[] ep))) h3.objs.size (PinO h3.objs.size (seqObj "list" #[] 0))) ⟨h3.push (seqObj "list" #[] 0), gg, dd, tt, os⟩ :=
    I3.laid (t' := tt) (fun b o e => Heap.get?_push_of_some _ e) (Nat.le_refl _) (pinO_ok hk4)
  refine sk_rest (H0 := H) I4 ((Ex.new na).at_new nk0) na nk0 (by rw [upd_ne hka.symm, upd_same]) upd_same hka (Heap.get?_push_of_some _ hf3) (by rw [upd_ne fk, upd_ne fa]; exact nf) rv hZ hlen hard hal hsk (fun d hd => hu d hd) turn fun H' s' I' x' l' => ⟨rfl, h _ H' s' I' x' na l'⟩
end
end Bk
set_option Elab.async false
set_option linter.all false
set_option maxRecDepth 100000
set_option maxHeartbeats 4000000
/-! Bk140: heaps with tables of code objects; d.items() of a dict with tuple keys; sorted(xs, key=lambda x: ..). -/
namespace Bk
open PySem PySem.Spec PyProof.Rows L2
/-! ### what is kept where tables of code objects may grow -/
/-- anything but a table of code objects -/
def NT : HO → Prop
  | .tbl _ => False
  | _ => True
structure Ey (T : List (Addr × Str)) (H H' : Hp) : Prop where
  keep : ∀ (a : Addr) (o : HO), H a = some o → (hn : NT o := by exact True.intro) → H' a = some o
  tbl : ∀ a ps, H a = some (.tbl ps) → ∃ qs, H' a = some (.tbl qs)
  tabs : LamX.Tabs T H → LamX.Tabs T H'
instance {T : List (Addr × Str)} {H H' : Hp} : CoeFun (Ey T H H') fun _ => ∀ (a : Addr) (o : HO), H a = some o → (hn : NT o := by exact True.intro) → H' a = some o := ⟨fun e => @e.keep⟩
theorem Ex.ey {T : List (Addr × Str)} {H H' : Hp} (e : Ex H H') : Ey T H H' := ⟨fun a o h _ => e a o h, fun a ps h => ⟨ps, e a _ h⟩, fun t => t.ext e⟩
theorem Ey.refl {T : List (Addr × Str)} (H : Hp) : Ey T H H := (Ex.refl H).ey
theorem Ey.trans {T : List (Addr × Str)} {H H1 H2 : Hp} (a : Ey T H H1) (b : Ey T H1 H2) : Ey T H H2 := ⟨fun x o h n => b.keep x o (a.keep x o h n) n, fun x ps h => let ⟨_, z⟩ := a.tbl x ps h; b.tbl x _ z, fun t => b.tabs (a.tabs t)⟩
theorem nt_or (o : HO) : (∃ ps, o = .tbl ps) ∨ NT o := by
  cases o <;> first | exact .inr trivial | exact .inl ⟨_, rfl⟩
theorem Ey.free {T : List (Addr × Str)} {H H' : Hp} {p : Addr} (e : Ey T H H') (h : H' p = none) : H p = none := by
  cases q : H p with
  | none => rfl
  | some o =>
    rcases nt_or o with ⟨ps, rfl⟩ | n
    · obtain ⟨qs, z⟩ := e.tbl p ps q
      rw [h] at z
      cases z
    · rw [e.keep p o q n] at h
      cases h
theorem Ey.new {T : List (Addr × Str)} {H : Hp} {p : Addr} {o : HO} (h : H p = none) : Ey T H (upd H p o) := (Ex.new h).ey
theorem Ey.ext {T : List (Addr × Str)} {H H' : Hp} (e : LamX.ExtN H H') (t : LamX.Tabs T H → LamX.Tabs T H') (k : ∀ a ps, H a = some (.tbl ps) → ∃ qs, H' a = some (.tbl qs)) : Ey T H H' := ⟨fun a o h n => e a o h fun ps z => by rw [z] at n; exact n, k, t⟩
theorem Ey.tk {T : List (Addr × Str)} {H H' : Hp} (e : Ey T H H') : Tk H H' := fun a xs h => e a _ h
theorem Ey.seqL {T : List (Addr × Str)} {K : PySem.W.Frag} {H H' : Hp} {a : Addr} {xs : List V} (e : Ey T H H') (h : SqL K H a xs) : SqL K H' a xs := by
  rcases h with (h | ⟨o, h⟩) | h
  · exact .inl (.inl (e _ _ h))
  · exact .inl (.inr ⟨o, e _ _ h⟩)
  · exact .inr h
/-- what may be written: no table, no code object -/
def WR : HO → Prop
  | .lst _ => True
  | .dK _ => True
  | .dT _ => True
  | .set _ _ => True
  | .ins _ _ _ => True
  | .frz _ _ => True
  | _ => False
theorem tabS_upd {H : Hp} {p : Addr} {o u : HO} {P : Addr} {q : Str} (h : H p = some u) (w : WR u) (t : LamX.TabS H P q) : LamX.TabS (upd H p o) P q := by
  obtain ⟨ps, h1, h2, h3⟩ := t
  have n1 : P ≠ p := ne_of h1 h (fun z => by rw [← z] at w; exact w)
  refine ⟨ps, by rw [upd_ne n1]; exact h1, h2, fun pos cv hc => ?_⟩
  obtain ⟨c, e1, e2⟩ := h3 pos cv hc
  have n2 : c ≠ p := ne_of e2 h (fun z => by rw [← z] at w; exact w)
  exact ⟨c, e1, by rw [upd_ne n2]; exact e2⟩
theorem tabs_upd {T : List (Addr × Str)} {H : Hp} {p : Addr} {o u : HO} (h : H p = some u) (w : WR u) (t : LamX.Tabs T H) : LamX.Tabs T (upd H p o) := fun x hx => tabS_upd h w (t x hx)
/-- a new thing is written over -/
theorem Ey.at_new {T : List (Addr × Str)} {H H' : Hp} {p : Addr} {o u : HO} (x : Ey T H H') (h : H p = none) (h' : H' p = some u) (w : WR u) : Ey T H (upd H' p o) :=
  ⟨fun a v e n => by rw [upd_ne (ne_of_none e h)]; exact x.keep a v e n, fun a ps e => by rw [upd_ne (ne_of_none e h)]; exact x.tbl a ps e, fun t => tabs_upd h' w (x.tabs t)⟩
/-- all but what stands at l -/
structure By (T : List (Addr × Str)) (l : Addr) (H H' : Hp) : Prop where
  keep : ∀ (a : Addr) (o : HO), a ≠ l → H a = some o → (hn : NT o := by exact True.intro) → H' a = some o
  tbl : ∀ a ps, a ≠ l → H a = some (.tbl ps) → ∃ qs, H' a = some (.tbl qs)
  tabs : LamX.Tabs T H → LamX.Tabs T H'
instance {T : List (Addr × Str)} {l : Addr} {H H' : Hp} : CoeFun (By T l H H') fun _ => ∀ (a : Addr) (o : HO), a ≠ l → H a = some o → (hn : NT o := by exact True.intro) → H' a = some o := ⟨fun e => @e.keep⟩
theorem Ey.by_ {T : List (Addr × Str)} {H H' : Hp} (e : Ey T H H') (l : Addr) : By T l H H' := ⟨fun a o _ h n => e.keep a o h n, fun a ps _ h => e.tbl a ps h, e.tabs⟩
theorem Ex.by_ {T : List (Addr × Str)} {H H' : Hp} (e : Ex H H') (l : Addr) : By T l H H' := e.ey.by_ l
theorem By.refl {T : List (Addr × Str)} (l : Addr) (H : Hp) : By T l H H := (Ey.refl H).by_ l
theorem By.trans {T : List (Addr × Str)} {l : Addr} {H H1 H2 : Hp} (a : By T l H H1) (b : By T l H1 H2) : By T l H H2 := ⟨fun x o n h z => b.keep x o n (a.keep x o n h z) z, fun x ps n h => let ⟨_, z⟩ := a.tbl x ps n h; b.tbl x _ n z, fun t => b.tabs (a.tabs t)⟩
theorem But.by_ {T : List (Addr × Str)} {l : Addr} {H H' : Hp} {u : HO} (b : But l H H') (h : H l = some u) (w : WR u) : By T l H H' := ⟨fun a o n e _ => b a o n e, fun a ps n e => ⟨ps, b a _ n e⟩, fun t x hx => by
  obtain ⟨ps, h1, h2, h3⟩ := t x hx
  refine ⟨ps, b _ _ (ne_of h1 h (fun z => by rw [← z] at w; exact w)) h1, h2, fun pos cv hc => ?_⟩
  obtain ⟨c, e1, e2⟩ := h3 pos cv hc
  exact ⟨c, e1, b _ _ (ne_of e2 h (fun z => by rw [← z] at w; exact w)) e2⟩⟩
theorem Box.wr {H : Hp} {p : Addr} (h : Box H p) : ∃ u, H p = some u ∧ WR u := by
  obtain ⟨_, _, _, e⟩ := h
  exact ⟨_, e, trivial⟩
theorem But.byB {T : List (Addr × Str)} {l : Addr} {H H' : Hp} (b : But l H H') (h : Box H l) : By T l H H' := let ⟨_, e, w⟩ := h.wr; b.by_ e w
theorem By.upd {T : List (Addr × Str)} {l : Addr} {H H' : Hp} {o u : HO} (a : By T l H H') (h : H' l = some u) (w : WR u) : By T l H (upd H' l o) :=
  ⟨fun x v n e z => by rw [upd_ne n]; exact a.keep x v n e z, fun x ps n e => by rw [upd_ne n]; exact a.tbl x ps n e, fun t => tabs_upd h w (a.tabs t)⟩
theorem Ey.of_by {T : List (Addr × Str)} {H H1 H2 : Hp} {l : Addr} (e : Ey T H H1) (b : By T l H1 H2) (h : H l = none) : Ey T H H2 :=
  ⟨fun a o x n => b.keep a o (ne_of_none x h) (e.keep a o x n) n, fun a ps x => let ⟨_, z⟩ := e.tbl a ps x; b.tbl a _ (ne_of_none x h) z, fun t => b.tabs (e.tabs t)⟩
theorem By.free {T : List (Addr × Str)} {l p : Addr} {H H' : Hp} (e : By T l H H') (n : p ≠ l) (h : H' p = none) : H p = none := by
  cases q : H p with
  | none => rfl
  | some o =>
    rcases nt_or o with ⟨ps, rfl⟩ | m
    · obtain ⟨qs, z⟩ := e.tbl p ps n q
      rw [h] at z
      cases z
    · rw [e.keep p o n q m] at h
      cases h
theorem By.get {T : List (Addr × Str)} {l a : Addr} {H H' : Hp} {o u : HO} (b : By T l H H') (hl : H l = some u) (h : H a = some o) (d : o ≠ u) (n : NT o := by exact True.intro) : H' a = some o := b.keep a o (ne_of h hl d) h n
theorem By.tk {T : List (Addr × Str)} {l : Addr} {H H' : Hp} {u : HO} (b : By T l H H') (hl : H l = some u) (w : WR u) : Tk H H' := fun a xs h => b.get hl h (fun z => by rw [← z] at w; exact w)
theorem By.tkB {T : List (Addr × Str)} {l : Addr} {H H' : Hp} (b : By T l H H') (h : Box H l) : Tk H H' := let ⟨_, e, w⟩ := h.wr; b.tk e w
theorem By.at_new {T : List (Addr × Str)} {p q : Addr} {H H' : Hp} {o u : HO} (e : By T p H H') (h : H q = none) (h' : H' q = some u) (w : WR u) : By T p H (L2.upd H' q o) :=
  ⟨fun a v n x z => by rw [upd_ne (ne_of_none x h)]; exact e.keep a v n x z, fun a ps n x => by rw [upd_ne (ne_of_none x h)]; exact e.tbl a ps n x, fun t => tabs_upd h' w (e.tabs t)⟩
theorem By.new {T : List (Addr × Str)} {p q : Addr} {H H' : Hp} {o : HO} (e : By T p H H') (h : H' q = none) : By T p H (L2.upd H' q o) := e.trans ((Ex.new h).by_ p)
/-! ### d.items(), d with keys that are tuples -/
theorem frzT2 {X : Cx} {pins : List (Addr × Obj)} {σ : L2.St} {H : Hp} {s : Shared} {d : Addr} {o : Obj} {kvs : List (List Key × V)} (I : Inv X pins σ H s) (h : H d = some (.frz o (.dT kvs))) :
    (d == sysModules) = false ∧ s.heap.get? d = some o ∧ o.ExactDict ∧ ∃ (es : Array DictEntry) (ep : Nat), o.data = .dict es ep ∧ es.size = kvs.length ∧
      ∀ (i : Nat) (k : List Key) (v : V), kvs[i]? = some (k, v) → ∃ (en : DictEntry) (q : Addr), es[i]? = some en ∧ en.key = .ref q ∧ H q = some (.tup (k.map kV)) ∧ RelV v en.val := by
  obtain ⟨hd, z, hs, xs, pr, o', es, ep, ho, hx, hdt, he, _⟩ := I.hok d _ h
  rw [hd] at ho
  cases ho
  refine ⟨hs, hd, hx, es, ep, hdt, ?_, fun i k v e => ?_⟩
  · have l1 : es.size = xs.length := size_of_entries he
    have l2 : kvs.length = xs.length := Paired.length pr
    omega
  · obtain ⟨b, hb, e1, e2, e3⟩ := paired_get pr e
    have q := entry_at he i
    rw [hb] at q
    exact ⟨_, b.2.1, q, rfl, e2, e3⟩
/-- the pairs, each a new tuple -/
def ItiT (d : Addr) (o : Obj) (kvs : List (List Key × V)) : It :=
  ⟨fun i H => H d = some (.frz o (.dT kvs)) ∧ i < kvs.length, fun i H x H' => ∃ T k v q, kvs[i]? = some (k, v) ∧ x = .ref T ∧ H T = none ∧ H q = some (.tup (k.map kV)) ∧ H' = upd H T (.tup [.ref q, v]), fun i H => H d = some (.frz o (.dT kvs)) ∧ kvs.length ≤ i⟩
theorem turn_itemsT {P : Program} {w : World} {K : PySem.W.Frag} {d : Addr} {o : Obj} {es : Array DictEntry} {ep : Nat} {kvs : List (List Key × V)} {elts : List Expr} {kk : Nat} {tpos : Pos} (it : Addr) (hod : o.data = .dict es ep) :
    Turn P w K (.Tuple elts kk tpos) (ItiT d o kvs) [it] it (fun i h => ∃ ok ov, IsItemIter h it d i kvs.length ep ok ov) where
  mem := by simp
  obj := fun i h st b hb => by
    have e : b = it := by simpa using hb
    subst e
    obtain ⟨ok, ov, e⟩ := st
    exact ⟨_, e, fun v z => nomatch z⟩
  keep := fun i h h' st k => let ⟨ok, ov, e⟩ := st; ⟨ok, ov, k it (by simp) _ e⟩
  item := by
    intro X hP hw hK hc i pins s σ H E I hf st hg
    subst hP hw hK
    obtain ⟨hd, hi⟩ := hg
    obtain ⟨hs, hgd, hx, es', ep', hdt, hsz, ent⟩ := frzT2 I hd
    obtain ⟨rfl, rfl⟩ := dict_ep hod hdt
    obtain ⟨⟨k, v⟩, hkv⟩ : ∃ p, kvs[i]? = some p := ⟨kvs[i], List.getElem?_eq_getElem hi⟩
    obtain ⟨en, q, he0, hkey, hq, rv⟩ := ent i k v hkv
    obtain ⟨ok, ov, he⟩ := st
    rw [← hsz] at he
    have hlt : it < s.heap.objs.size := Heap.lt_size he
    have hi' : i < es'.size := by omega
    have een : es'[i] = en := by
      rw [Array.getElem?_eq_getElem hi'] at he0
      exact Option.some.inj he0
    refine DT.nextI he ⟨_, hgd, hx, hdt⟩ hi' fun h' ho hT hz hk => ?_
    refine ⟨_, rfl, wpAny_letOwnedTupleGo_items (s := { s with heap := h' }) ho fun h'' he' sb => ?_⟩
    have hT2 : h''.get? s.heap.objs.size = some { cls := .type "tuple", data := .seq #[es'[i].key, es'[i].val] } := (sb.2 _ (Nat.ne_of_gt hlt)).trans hT
    have new : ObjOk X.prog X.w (upd H s.heap.objs.size (.tup [.ref q, v])) h'' s.heap.objs.size (.tup [.ref q, v]) :=
      ⟨by show 2 ≤ sizeLine; decide, [es'[i].key, es'[i].val], .cons (by rw [een, hkey]; rfl) (.cons (by rw [een]; exact rv) .nil), ⟨_, hT2, rfl, _, rfl⟩⟩
    have I1 : Inv X pins σ (upd H s.heap.objs.size (.tup [.ref q, v])) { s with heap := h'' } :=
      I.turnedNew (t' := s.toks) (ch := [it]) (fun b ob hb e => (sb.2 b (by simpa using hb)).trans (hk b ob (by simpa using hb) e)) hf (Nat.le_refl _) new
    refine ⟨.ref s.heap.objs.size, _, I1, rfl, ⟨_, k, v, q, hkv, rfl, I.hok.fresh (Nat.le_refl _), hq, rfl⟩, ⟨es'[i].key, es'[i].val, ?_⟩, fun b hb => ?_⟩
    · rw [← hsz]; exact he'
    · have e : b = it := by simpa using hb
      rw [e, upd_ne (Nat.ne_of_lt hlt)]
      exact (hf it (by simp)).1
  done := by
    intro X hP hw hK hc i pins s σ H E I hf st hg
    subst hP hw hK
    obtain ⟨hd, hi⟩ := hg
    obtain ⟨f0, f1, f2, f3, f4, f5⟩ := hf it (by simp)
    obtain ⟨hs, hgd, hx, es', ep', hdt, hsz, ent⟩ := frzT2 I hd
    obtain ⟨rfl, rfl⟩ := dict_ep hod hdt
    obtain ⟨ok, ov, he⟩ := st
    rw [← hsz] at he
    exact DT.endI (I.ok.hd hc) he ⟨_, hgd, hx, hdt⟩ (by omega) fun h' eb => ⟨rfl, I.turned (t' := s.toks) (fun b ob hb e => eb b ob hb e) f0 f1 f3 f4 f5⟩
  self := fun A i s Q E st h => let ⟨_, _, e⟩ := st; PySem.W.kcp_self e h
def iItemsT (td : TE) : TI := fun σ H R => td σ H fun x H1 => ∃ d o kvs, x = .ref d ∧ H1 d = some (.frz o (.dT kvs)) ∧ R (ItiT d o kvs) H1
theorem pi_itemsT {X : Cx} {e : Expr} {td : TE} {apos cpos : Pos} {elts : List Expr} {kk : Nat} {tpos : Pos} (he : PE X e td) (hbase : attributeBase e "items" X.env (eval e X.env) = eval e X.env := by rfl) (hline : (apos.endLine == cpos.line) = true := by rfl) :
    PI X (.Tuple elts kk tpos) (.Call (.Attribute e "items" apos) [] [] cpos) (iItemsT td) := by
  refine ⟨fun pins s σ H R I h => ?_⟩
  refine wpAny_Call_method (T := "dict") (id := "dict.items") hbase rfl hline F.plainAttrs_dict F.slot_dict_items F.type_dict_items (thn (he.run pins s σ H _ I h) fun u s1 ⟨x, H1, I1, rx, d, o, kvs, ex, hd, q⟩ => ?_)
  subst ex
  obtain rfl : u = Value.ref d := rx
  obtain ⟨hs, hgd, hx, es, ep, hdt, hsz, ent⟩ := frzT2 I1 hd
  have raw : DT.Raw s1.heap d es ep := ⟨_, hgd, hx, hdt⟩
  refine ⟨raw.typeIs, fun a ea => ?_, ?_⟩
  · cases ea
    exact ⟨_, hgd, hx.2.1⟩
  have I2 : Inv X pins σ H1 { s1 with heap := s1.heap.push { cls := .type "dict_items", data := .fields #[.ref d] } } := I1.kept (t' := s1.toks) fun b ob q => Heap.get?_push_of_some _ q
  have fin : wpAny (model X.prog X.w) X.A (pyIter (.ref s1.heap.objs.size)) (PIE X pins σ (.Tuple elts kk tpos) R) X.xe { s1 with heap := s1.heap.push { cls := .type "dict_items", data := .fields #[.ref d] } } := by
    refine DT.iterI (d := d) ⟨_, Heap.get?_push_size _ rfl, rfl, rfl⟩ (raw.push _) (pi_one (tk := s1.toks) I2 _ (turn_itemsT _ hdt) ⟨.none, .none, ?_⟩ q)
    rw [← hsz]
    exact Heap.get?_push_size _ rfl
  show wpAny _ _ (callWith cpos (.builtin "dict.items") [.ref d] [] []) _ X.xe s1
  exact method_meetsIn F.slot_dict_items F.entry_dict_items rfl (PySem.evalArgs_none ⟨rfl, raw.typeIs, F.args_dict_items_1 _, _, DT.meetsItems (es := es) (ep := ep) hs, ⟨raw, fin⟩⟩)
theorem walk_itemsT {d : Addr} {o : Obj} {kvs : List (List Key × V)} : Walk (ItiT d o kvs) kvs.length (fun H => H d = some (.frz o (.dT kvs))) (fun i H x H' => ∃ T k v q, kvs[i]? = some (k, v) ∧ x = .ref T ∧ H T = none ∧ H q = some (.tup (k.map kV)) ∧ H' = upd H T (.tup [.ref q, v])) :=
  ⟨fun i H hi g => ⟨g, hi⟩, fun H g => ⟨g, Nat.le_refl _⟩, fun i H x H' _ _ y => y⟩
/-! ### a lambda is made -/
section
variable {X : Cx} {pins : List (Addr × Obj)} {σ : L2.St} {H : Hp} {s : Shared}
open LamX in
/-- as LamX.lam_make2: what is kept told more closely -/
theorem lam_make3 {T : List (Addr × Str)} {c P : Addr} {params : Arguments} {body : Expr} {scope : Scope} {pos : Pos} {E : Value → Shared → Prop} {Q : Value → Shared → Prop} (I : Inv X pins σ H s) (TB : TabB X.base X.mg c P) (hcode : X.env.code = .ref c)
    (hm : (P, X.env.qual ++ "<lambda>") ∈ T) (hu : ∀ p ∈ T, p.1 = P → p.2 = X.env.qual ++ "<lambda>") (hT : Tabs T H) (hdef : defaultsOf params X.env = ([], [])) (hfree : ∀ y ∈ scope.names, y.2 = .free → ∃ c, X.env.cells.lookup y.1 = some c)
    (h : ∀ (f c' : Addr) (pm ctv : Value) (H1 : Hp) (s' : Shared), Inv X pins σ H1 s' → Ey T H H1 → Tabs T H1 →
      s'.heap.get? f = some (PySem.W.kla_obj "<lambda>" (X.env.qual ++ "<lambda>") params body scope (cloFrom X.env.cells scope.names []) pm c' ctv) → H1 f = none → f ∉ frs X.stack → H1 c' = some (CodeO c' (X.env.qual ++ "<lambda>")) → Q (.ref f) s') :
    wpAny (model X.prog X.w) X.A (eval (.Lambda params body scope pos) X.env) Q E s := by
  obtain ⟨ps, hP, ht, ha⟩ := hT _ hm
  refine PySem.W.kla_eval hdef ?_
  have bP : s.heap.BuiltinsAt X.mg P := TB.bm.keeps I.bk
  have hP' : s.heap.get? P = some { cls := .none, data := .fields ps } := I.hok P _ hP
  have nofr : ∀ f, s.heap.objs.size ≤ f → f ∉ frs X.stack := fun f hf z => by
    rcases List.mem_cons.mp (I.stkSub _ z) with e | e
    · have h1 := I.lt
      rw [← e] at h1
      exact Nat.lt_irrefl _ (Nat.lt_of_lt_of_le h1 hf)
    · exact I.nofs hf e
  cases hc : codeAmong pos ps.toList with
  | none =>
    refine PySem.W.kla_makeFunction (mg := X.mg) (c := c) (P := P) (ps := ps) (closure_ok hfree) I.ok.glob (I.mod.glob.keeps I.bk) hcode (TB.code.keeps I.bk) hP' ht hc TB.gP bP fun c' ctv h' tk hx hge hlt hrec htb => ?_
    obtain ⟨c2, oc, vs, t, e2, hoc, hd, hv⟩ := hrec
    cases e2
    have hsz : s.heap.objs.size ≤ h'.objs.size := Nat.le_trans hge (Nat.le_of_lt hlt)
    have nC : H c' = none := I.hok.fresh hge
    have I1 := inv_table (t' := tk) (more := #[rawInt pos.line, rawInt pos.col, .ref c']) (h' := h'.push (PySem.W.kla_obj "<lambda>" (X.env.qual ++ "<lambda>") params body scope (cloFrom X.env.cells scope.names []) ((X.mg "__name__").getD .none) c' ctv)) I hP
      (fun b o hb e => Heap.get?_push_of_some _ (hx b o hb e)) (Heap.get?_push_of_some _ htb) hge ⟨oc, vs, t, Heap.get?_push_of_some _ hoc, hd, hv⟩
    have hE : ExtN H (upd (upd H P (.tbl (ps ++ #[rawInt pos.line, rawInt pos.col, .ref c']))) c' (CodeO c' (X.env.qual ++ "<lambda>"))) := fun b o e n => by
      rw [upd_ne (ne_of_none e nC), upd_ne (fun z => n ps (Option.some.inj (e.symm.trans (by rw [z]; exact hP))))]
      exact e
    have eL : (ps ++ #[rawInt pos.line, rawInt pos.col, .ref c']).toList = ps.toList ++ [rawInt pos.line, rawInt pos.col, .ref c'] := by simp
    have T1 : Tabs T (upd (upd H P (.tbl (ps ++ #[rawInt pos.line, rawInt pos.col, .ref c']))) c' (CodeO c' (X.env.qual ++ "<lambda>"))) := fun p hp => by
      by_cases hb : p.1 = P
      · rw [hu p hp hb, hb]
        refine ⟨_, by rw [upd_ne (ne_of_none hP nC), upd_same], by rw [eL]; exact PySem.TriplesOk_snoc _ _ _ _ ht, fun p' cv hcv => ?_⟩
        rw [eL] at hcv
        rcases among_app _ ht hcv with z | z
        · obtain ⟨c0, e1, e2⟩ := ha p' cv z
          exact ⟨c0, e1, hE _ _ e2 codeO_ne⟩
        · exact ⟨c', z, upd_same⟩
      · obtain ⟨ps', a1, a2, a3⟩ := hT p hp
        refine ⟨ps', by rw [upd_ne (ne_of_none a1 nC), upd_ne hb]; exact a1, a2, fun p' cv hcv => ?_⟩
        obtain ⟨c0, e1, e2⟩ := a3 p' cv hcv
        exact ⟨c0, e1, hE _ _ e2 codeO_ne⟩
    refine h h'.objs.size c' ((X.mg "__name__").getD .none) ctv _ _ I1 (Ey.ext hE (fun _ => T1) fun a qs hq => ?_) T1 (Heap.get?_push_size _ rfl) ?_ (nofr _ hsz) upd_same
    · by_cases hb : a = P
      · subst hb
        exact ⟨_, by rw [upd_ne (ne_of_none hP nC), upd_same]⟩
      · exact ⟨qs, by rw [upd_ne (ne_of_none hq nC), upd_ne hb]; exact hq⟩
    · have n1 : h'.objs.size ≠ c' := Nat.ne_of_gt hlt
      have n2 : h'.objs.size ≠ P := Nat.ne_of_gt (Nat.lt_of_lt_of_le (Heap.lt_size hP') hsz)
      rw [upd_ne n1, upd_ne n2]
      exact I.hok.fresh hsz
  | some cv =>
    obtain ⟨c', e, hco⟩ := ha pos cv hc
    subst e
    refine PySem.W.kla_makeFunctionHit (mg := X.mg) (c := c) (P := P) (ps := ps) (closure_ok hfree) I.ok.glob (I.mod.glob.keeps I.bk) hcode (TB.code.keeps I.bk) hP' ht hc bP fun ctv h' tk hx hsz => ?_
    have I1 : Inv X pins σ H { s with heap := h'.push (PySem.W.kla_obj "<lambda>" (X.env.qual ++ "<lambda>") params body scope (cloFrom X.env.cells scope.names []) ((X.mg "__name__").getD .none) c' ctv), toks := tk } := I.kept fun b o e => Heap.get?_push_of_some _ (hx b o e)
    exact h h'.objs.size c' ((X.mg "__name__").getD .none) ctv H _ I1 (Ey.refl H) hT (Heap.get?_push_size _ rfl) (I.hok.fresh hsz) (nofr _ hsz) hco
end
/-! ### sorted(xs, key=lambda x: ..) -/
def SortPost (K : PySem.W.Frag) (T : List (Addr × Str)) (N : List Str) (tb : TE) (Q : VK) (x : V) (H1 : Hp) : Prop := LamX.Tabs T H1 ∧ ∃ l xs ds, x = .ref l ∧ SqL K H1 l xs ∧ ds.length = xs.length ∧ (∀ d ∈ ds, d.hard = true) ∧ PySem.W.AllAlike (ds.map D.pd) ∧ PySem.W.Sortable (ds.map D.pd) ∧ (∀ d ∈ ds, d.dep ≤ 60) ∧
  (∀ (i : Nat) (x : V) (d : D) (Hi : Hp), xs[i]? = some x → ds[i]? = some d → Ey T H1 Hi → tb (L2.start N [x]) Hi fun kv H2 => Ex Hi H2 ∧ Rep H2 d kv) ∧
  ∀ (p : Addr) (H' : Hp), Ey T H1 H' → H1 p = none → H' p = some (.lst (byKey xs ds)) → Q (.ref p) H'
def uSortL (K : PySem.W.Frag) (T : List (Addr × Str)) (N : List Str) (te tb : TE) : TE := fun σ H Q => te σ H fun x H1 => SortPost K T N tb Q x H1
section
variable {X : Cx}
theorem pe_sortLam {T : List (Addr × Str)} {c P : Addr} {k : Nat} {e : Expr} {te tb : TE} {params : Arguments} {body : Expr} {scope : Scope} {p lpos kpos pos : Pos} {N : List Str} {a : Str}
    (hg : Gl X "sorted") (hm : X.mg "sorted" = none) (TB : LamX.TabB X.base X.mg c P) (hcode : X.env.code = .ref c) (hmT : (P, X.env.qual ++ "<lambda>") ∈ T) (hu : ∀ p ∈ T, p.1 = P → p.2 = X.env.qual ++ "<lambda>")
    (hr : Room (k + 3) X.A) (S : FnScope N [a] scope) (hdef : defaultsOf params X.env = ([], [])) (hclo : cloFrom X.env.cells scope.names [] = [])
    (hbind : ∀ (q : Str) (pm cv ctv u : Value), bindArgs (PySem.W.kla_fn "<lambda>" q params body scope [] pm cv ctv) ⟨[u], []⟩ = pure [(a, u)]) (he : PE X e te)
    (hbody : ∀ (A : Around) (outer : List Env) (s : Shared) (H : Hp) (E : XK) (f c' : Addr), Room k (A.deeper (envOfC (X.env.qual ++ "<lambda>") scope s.heap.objs.size f (.ref c'))) → PE (cxOf (L2.CX X.prog X.w) X.prog X.w X.K X.mg X.base N (X.env.qual ++ "<lambda>") scope f (.ref c') A outer s H E) body tb)
    (hst : starEach [e] X.env = (false, eval e X.env) :: starEach [] X.env := by rfl) (hb0 : backTo pos (starEach [e] X.env) = [(false, eval e X.env)] := by rfl) :
    PE X (.Call (.Name "sorted" p) [e] [⟨some "key", .Lambda params body scope lpos, kpos⟩] pos) (uSortL X.K T N te tb) := by
  have hb1 : backToKw pos (keywordEach [⟨some "key", .Lambda params body scope lpos, kpos⟩] X.env) = [(some (Str.ofString "key"), do let v ← eval (.Lambda params body scope lpos) X.env; standAt pos; pure v)] := rfl
  refine ⟨fun pins s σ H Q I h => ?_⟩
  refine wpAny_Call_Name_kw (ld_blt (u := .builtin "sorted") I hg hm (by decide +kernel) ?_ (by decide) (by decide))
  have hfree : ∀ y ∈ scope.names, y.2 = .free → ∃ c, X.env.cells.lookup y.1 = some c := fun y hy z => (S.nofree y hy z).elim
  refine PyProof.Rows.callWith_kw (thn ((pa_cons he pa_nil hst).run pos pins s σ H (fun vs H1 => match vs with | [x] => SortPost X.K T N tb Q x H1 | _ => False) I h) fun us s1 z => ?_) (by rw [hb0]; rfl) (by rw [hb0]; rfl) (by rw [hb1]; rfl) (by rw [hb1]; rfl)
  rw [hb1]
  obtain ⟨vs, H1, I1, rv, q⟩ := z
  split at q
  · rename_i x
    obtain ⟨u, rfl, rx⟩ := vals1 rv
    obtain ⟨hT, l, xs, ds, rfl, hl, hlen, hard, hal, hsk, hdep, turn, fin⟩ := q
    obtain rfl : u = Value.ref l := rx
    refine wpAny_evalAll_cons (wpAny_bind (lam_make3 I1 TB hcode hmT hu hT hdef hfree fun f c' pm ctv H2 s2 I2 e2 T2 hf hfn hfr hco => wpAny_bind (wpAny_standAt (wpAny_pure ?_))))
    refine wpAny_evalAll_nil ?_
    rw [hclo] at hf
    show wpAny _ _ (call (.builtin "sorted") [.ref l] [(Str.ofString "key", .ref f)]) _ _ s2
    refine sorted_layer I2 (e2.seqL hl) hf hfn hlen hard hal hsk (fun d hd => ?_) (fun i x u d hx hd rx Hi s' Ii xi fi ni => ?_) fun p H' s' I' x' np lp => ⟨.ref p, H', I', rfl, fin p H' (e2.trans x'.ey) (e2.free np) lp⟩
    · rw [D.pd_dep]
      have := hdep d hd
      have := hr.un
      omega
    · have hr2 : Room (k + 1) X.A.in1.in1 := (hr.in1).in1
      have e0 : Env0 X.prog X.w X.K X.mg X.base X.A.in1.in1 X.stack s' Hi := Ii.env0.in1.in1
      obtain ⟨⟨oc, us, t, hoc, hdc, hvc⟩, _, _⟩ := Ii.hok c' _ (xi _ _ hco)
      refine wpAny_call (codeAny_mono (run_lam (CX := L2.CX X.prog X.w) (ps := [a]) (us := [u]) (vs := [x]) (Q := fun kv H2 => Ex Hi H2 ∧ Rep H2 d kv) (E := fun _ _ _ => False) fi ⟨c', oc, us, t, rfl, hoc, hdc, hvc⟩ S hr2 e0 (hbind _ _ _ _ _) (.cons rx .nil) rfl fun hr3 => ⟨tb, hbody _ _ _ _ _ _ _ hr3, turn i x d Hi hx hd (e2.trans xi.ey)⟩) fun r s'' hq => ?_)
      cases r with
      | error e =>
        obtain ⟨_, _, _, _, _, _, _, _, _, _, _, _, z⟩ := hq
        exact z.elim
      | ok fl =>
        cases fl with
        | ret u =>
          obtain ⟨kv, H3, os, bare, un, hok, rk, x3, pk⟩ := hq
          exact ⟨H3, Ii.call' os un hok bare (fun b z => absurd z (by simp)), x3, un.keep f _ fi ni hfr (by simp), un.free f _ fi ni (by simp), kv, rk, pk⟩
        | next => exact False.elim hq
        | brk => exact False.elim hq
        | cont => exact False.elim hq
  · exact q.elim
end
end Bk
set_option Elab.async false
set_option linter.all false
set_option maxRecDepth 100000
set_option maxHeartbeats 4000000
/-! Bk141: defs that make lambdas; the law's promise with tables. -/
theorem L2.Fun.okXC {P : PySem.Program} {w : PySem.World} {K : PySem.W.Frag} {mg : PySem.Str → Option PySem.Value} {base : PySem.Heap} {x qual : PySem.Str} {st : PySem.Stmt} {f c : PySem.Addr} {fd : PySem.FuncData} {N ps : List PySem.Str} {k : Nat} {sp : L2.Sp} (F : L2.Fun K x qual st f fd) (hc : fd.code = .ref c) (S : L2.FnScope N ps (L2.defScope st)) (len : ∀ vs H Q E, sp vs H Q E → vs.length = ps.length)
    (hbody : ∀ (A : PySem.Around) (outer : List PySem.Env) (s : PySem.Shared) (H : L2.Hp) (vs : List L2.V) (Q : L2.VK) (E : L2.XK), L2.Room k (A.deeper (PyProof.Rows.envOfC qual (L2.defScope st) s.heap.objs.size f (.ref c))) → sp vs H Q E →
      ∃ t, L2.PSs (L2.cxOf (L2.CX P w) P w K mg base N qual (L2.defScope st) f (.ref c) A outer s H E) (L2.defBody st) t ∧ t { nx := fun _ H' => Q .non H', rt := Q } (L2.start N vs) H) : L2.FnOk P w K mg base (L2.CX P w) (k + 1) f fd ps sp := by
  obtain ⟨oc, od, kV, doc, pm, an, cdv, ct, osl, rfl, lk, hcd⟩ := F.ex
  obtain rfl : cdv = .ref c := hc
  exact L2.fn_of lk hcd S len fun A outer s H vs Q E hr hsp => hbody A outer s H vs Q E hr hsp
theorem L2.FunD.okC {P : PySem.Program} {w : PySem.World} {K : PySem.W.Frag} {mg : PySem.Str → Option PySem.Value} {base : PySem.Heap} {x qual : PySem.Str} {params : PySem.Arguments} {body : List PySem.Stmt} {scope : PySem.Scope} {dvs : List L2.V} {kws : List (PySem.Str × L2.V)} {f c : PySem.Addr} {fd : PySem.FuncData} {CX : L2.CXT} {N ps : List PySem.Str} {k : Nat} {sp : L2.Sp} (F : L2.FunD K x qual params body scope dvs kws f fd) (hc : fd.code = .ref c) (S : L2.FnScope N ps scope) (len : ∀ vs H Q E, sp vs H Q E → vs.length = ps.length)
    (hbody : ∀ (A : PySem.Around) (outer : List PySem.Env) (s : PySem.Shared) (H : L2.Hp) (vs : List L2.V) (Q : L2.VK) (E : L2.XK), L2.Room k (A.deeper (PyProof.Rows.envOfC qual scope s.heap.objs.size f (.ref c))) → sp vs H Q E →
      ∃ t, L2.PSs (L2.cxOf CX P w K mg base N qual scope f (.ref c) A outer s H E) body t ∧ t { nx := fun _ H' => Q .non H', rt := Q } (L2.start N vs) H) : L2.FnOk P w K mg base CX (k + 1) f fd ps sp := by
  obtain ⟨oc, od, dV, kV, doc, pm, an, cdv, ct, osl, rfl, lk, hcd, _, _⟩ := F.ex
  obtain rfl : cdv = .ref c := hc
  exact L2.fn_of lk hcd S len fun A outer s H vs Q E hr hsp => hbody A outer s H vs Q E hr hsp
namespace Bk
open PySem PySem.Spec PyProof.Rows L2
/-- the table of the code object at c, as K tells it -/
def tabOfC (K : PySem.W.Frag) (c : Addr) : Option Addr := match K.lookup c with
  | some ⟨_, _, .fields vs, _⟩ => (match (vs[11]? : Option Value) with
    | some (.ref P) => some P
    | _ => none)
  | _ => none
def spLawT (T : List (Addr × Str)) (K : PySem.W.Frag) : Sp := fun vs H Q _ => ∃ (a : Addr) (ns : List Int), vs = [.ref a] ∧ LamX.Tabs T H ∧ SqL K H a (ns.map V.int) ∧ ns.length ≤ 63 ∧ ∀ H', Q (.bl true) H'
theorem spLawT_of {T : List (Addr × Str)} {K : PySem.W.Frag} {H : Hp} {a : Addr} {ns : List Int} (hT : LamX.Tabs T H) (hS : SqL K H a (ns.map V.int)) (hl : ns.length ≤ 63) : spLawT T K [.ref a] H (fun v _ => v = .bl true) fun _ _ _ => False := ⟨a, ns, rfl, hT, hS, hl, fun _ => rfl⟩
end Bk
set_option Elab.async false
set_option linter.all false
set_option maxRecDepth 100000
set_option maxHeartbeats 4000000
/-! Bk142: polynomials as data; class Poly's contracts. -/
namespace Bk
open PySem PySem.Spec PyProof.Rows L2
/-! ### terms -/
abbrev Tp := List Int × Fx
def expD (e : List Int) : D := .tup (e.map D.int)
def tpD (t : Tp) : D := .tup [expD t.1, fxD t.2]
def negE (e : List Int) : List Int := e.map fun x => 0 - x
def keyE (e : List Int) : D := .tup [.int e.sum, .tup ((negE e).map D.int)]
def getP (d : List Tp) (e : List Int) : Option Fx := (d.find? fun t => decide (t.1 = e)).map (·.2)
def putP (d : List Tp) (e : List Int) (f : Fx) : List Tp :=
  if (d.any fun t => decide (t.1 = e)) = true then d.map (fun t => if t.1 = e then (t.1, f) else t) else d ++ [(e, f)]
def stepP' (d : List Tp) (t : Tp) : List Tp := putP d t.1 (addF ((getP d t.1).getD (0, 1)) t.2)
def dictP (ts : List Tp) : List Tp := ts.foldl stepP' []
def nzP (l : List Tp) : List Tp := l.filter fun t => decide (t.2.1 ≠ 0)
noncomputable def leP (a b : Tp) : Bool := PySem.W.dataLe false (fun t : Tp => (keyE t.1).pd) a b
noncomputable def sortP (l : List Tp) : List Tp := l.mergeSort leP
noncomputable def polyP (ts : List Tp) : List Tp := sortP (nzP (dictP ts))
def mulP (ts us : List Tp) : List Tp := (ts.map fun t => us.map fun u => (t.1.zipWith (· + ·) u.1, mulF t.2 u.2)).flatten
def degP (ts : List Tp) : Int := maxF 0 (ts.map fun t => t.1.sum)
def powF (f : Fx) (x : Int × Fx) : Fx := (List.replicate x.1.toNat x.2).foldl mulF f
def prodE (e : List Int) (fs : List Fx) : Fx := (e.zip fs).foldl powF (1, 1)
def worthP (ts : List Tp) (fs : List Fx) : Fx := ts.foldl (fun f t => addF f (mulF t.2 (prodE t.1 fs))) (0, 1)
theorem exp_hard (e : List Int) : (expD e).hard = true := ints_hard e
theorem tp_hard (t : Tp) : (tpD t).hard = true := by
  show ((expD t.1).hard && ((fxD t.2).hard && true)) = true
  rw [exp_hard, fx_hard]
  rfl
theorem tps_hard (ts : List Tp) : D.hards (ts.map tpD) = true := hards_map tp_hard ts
theorem key_hard (e : List Int) : (keyE e).hard = true := by
  show (true && ((D.tup ((negE e).map D.int)).hard && true)) = true
  rw [show (D.tup ((negE e).map D.int)).hard = true from ints_hard _]
  rfl
theorem tp_at {H : Hp} {t : Tp} {v : V} (h : Rep H (tpD t) v) : ∃ a p q, v = .ref a ∧ H a = some (.tup [.ref p, .ref q]) ∧ H p = some (.tup (t.1.map V.int)) ∧ H q = some (.tup [.int t.2.1, .int t.2.2]) := by
  obtain ⟨a, vs, rfl, ha, r⟩ := h
  obtain ⟨x, y, rfl, hx, hy⟩ := Reps.two r
  obtain ⟨p, es, rfl, hp, re⟩ := hx
  obtain ⟨q, rfl, hq⟩ := fx_at hy
  exact ⟨a, p, q, rfl, ha, by rw [← Reps.ints re]; exact hp, hq⟩
theorem Rep.tp {H : Hp} {t : Tp} {a p q : Addr} (ha : H a = some (.tup [.ref p, .ref q])) (hp : H p = some (.tup (t.1.map V.int))) (hq : H q = some (.tup [.int t.2.1, .int t.2.2])) : Rep H (tpD t) (.ref a) :=
  Rep.two ha (Rep.tupO hp (intsReps _)) (Rep.fx hq)
/-! ### the dict of the terms -/
def inlK (e : List Int) : List Key := e.map Sum.inl
theorem inlK_inj : ∀ {a b : List Int}, inlK a = inlK b → a = b
  | [], [], _ => rfl
  | [], _ :: _, h => nomatch h
  | _ :: _, [], h => nomatch h
  | x :: a, y :: b, h => by
    have h' : Sum.inl x :: inlK a = (Sum.inl y :: inlK b : List Key) := h
    injection h' with h1 h2
    injection h1 with h1
    rw [h1, inlK_inj h2]
theorem inlK_kV (e : List Int) : (inlK e).map kV = e.map V.int := by
  unfold inlK
  rw [List.map_map]
  rfl
/-- the entries kvs tell the terms -/
def KvT (H : Hp) (kvs : List (List Key × V)) (l : List Tp) : Prop := Paired (fun (p : List Key × V) (t : Tp) => p.1 = inlK t.1 ∧ ∃ q, p.2 = .ref q ∧ H q = some (.tup [.int t.2.1, .int t.2.2])) kvs l
theorem Paired.imp {α β : Type} {F G : α → β → Prop} (f : ∀ a b, F a b → G a b) : ∀ {l : List α} {m : List β}, Paired F l m → Paired G l m
  | _, _, .nil => .nil
  | _, _, .cons h t => .cons (f _ _ h) (Paired.imp f t)
theorem KvT.tk {H H' : Hp} (e : Tk H H') {kvs : List (List Key × V)} {l : List Tp} (h : KvT H kvs l) : KvT H' kvs l := Paired.imp (fun _ _ ⟨a, q, b, c⟩ => ⟨a, q, b, e _ _ c⟩) h
theorem decK {a b : List Int} : decide (inlK a = inlK b) = decide (a = b) := by
  by_cases c : a = b
  · rw [c, decide_eq_true rfl, decide_eq_true rfl]
  · rw [decide_eq_false c, decide_eq_false fun z => c (inlK_inj z)]
theorem KvT.val {H : Hp} {e : List Int} : ∀ {kvs : List (List Key × V)} {l : List Tp}, KvT H kvs l → (valV kvs (inlK e) = none ∧ getP l e = none) ∨ ∃ q f, valV kvs (inlK e) = some (.ref q) ∧ getP l e = some f ∧ H q = some (.tup [.int f.1, .int f.2])
  | _, _, .nil => .inl ⟨rfl, rfl⟩
  | p :: _, t :: _, .cons ⟨h1, q, h2, h3⟩ r => by
    by_cases c : t.1 = e
    · refine .inr ⟨q, t.2, ?_, ?_, h3⟩
      · rw [valV_pos (by rw [h1, c]), h2]
      · unfold getP
        rw [List.find?_cons_of_pos (by simpa using c)]
        rfl
    · have c' : ¬ p.1 = inlK e := fun z => c (inlK_inj (h1.symm.trans z))
      rw [valV_neg c']
      unfold getP
      rw [List.find?_cons_of_neg (by simpa using c)]
      exact KvT.val r
theorem KvT.any {H : Hp} {e : List Int} : ∀ {kvs : List (List Key × V)} {l : List Tp}, KvT H kvs l → (kvs.any fun kv => decide (kv.1 = inlK e)) = l.any fun t => decide (t.1 = e)
  | _, _, .nil => rfl
  | p :: _, t :: _, .cons ⟨h1, _⟩ r => by
    rw [List.any_cons, List.any_cons, KvT.any r, h1, decK]
theorem KvT.put {H : Hp} {e : List Int} {f : Fx} {q : Addr} (hq : H q = some (.tup [.int f.1, .int f.2])) {kvs : List (List Key × V)} {l : List Tp} (h : KvT H kvs l) : KvT H (putK kvs (inlK e) (.ref q)) (putP l e f) := by
  unfold putK putP
  rw [KvT.any h]
  split <;> rename_i hh <;> clear hh
  · induction h with
    | nil => exact .nil
    | @cons p t ps ts h r ih =>
      obtain ⟨h1, q', h2, h3⟩ := h
      refine .cons ?_ ih
      dsimp only
      by_cases c : t.1 = e
      · have c' : p.1 = inlK e := by rw [h1, c]
        rw [if_pos c, if_pos c']
        exact ⟨h1, q, rfl, hq⟩
      · have c' : ¬ p.1 = inlK e := fun z => c (inlK_inj (h1.symm.trans z))
        rw [if_neg c, if_neg c']
        exact ⟨h1, q', h2, h3⟩
  · induction h with
    | nil => exact .cons ⟨rfl, q, rfl, hq⟩ .nil
    | cons h r ih => exact .cons h ih
theorem KvT.len {H : Hp} {kvs : List (List Key × V)} {l : List Tp} (h : KvT H kvs l) : kvs.length = l.length := Paired.length h
theorem putP_len (l : List Tp) (e : List Int) (f : Fx) : (putP l e f).length ≤ l.length + 1 := by
  unfold putP
  split
  · rw [List.length_map]
    exact Nat.le_succ _
  · rw [List.length_append]
    exact Nat.le_refl _
theorem dictP_len (ts : List Tp) : (dictP ts).length ≤ ts.length := by
  have key : ∀ (ts : List Tp) (d : List Tp), (ts.foldl stepP' d).length ≤ d.length + ts.length := by
    intro ts
    induction ts with
    | nil => intro d; exact Nat.le_refl _
    | cons t ts ih =>
      intro d
      rw [List.foldl_cons]
      have h1 := ih (stepP' d t)
      have h2 := putP_len d t.1 (addF ((getP d t.1).getD (0, 1)) t.2)
      rw [List.length_cons]
      unfold stepP' at h1 ⊢
      omega
  have := key ts []
  simpa [dictP] using this
theorem dictP_take {ts : List Tp} {i : Nat} {t : Tp} (h : ts[i]? = some t) : dictP (ts.take (i + 1)) = stepP' (dictP (ts.take i)) t := by
  rw [take_at h]
  unfold dictP
  rw [List.foldl_append]
  rfl
/-! ### sizes -/
structure FitT (A N : Nat) (ts : List Tp) : Prop where
  each : ∀ t ∈ ts, Szf A N t.2
  low : 0 < N
  hN : N < 2 ^ 5500
  hA : (ts.length + 2) * A < 2 ^ 900
  len : ts.length ≤ 100000
theorem szf0 {A N : Nat} : Szf A N (0, 1) := ⟨by decide, Nat.one_dvd _, Nat.zero_le _⟩
theorem getP_sz {A N : Nat} {l : List Tp} (h : ∀ t ∈ l, Szf A N t.2) (e : List Int) : Szf A N ((getP l e).getD (0, 1)) := by
  cases c : getP l e with
  | none => exact szf0
  | some f =>
    unfold getP at c
    cases d : l.find? fun t => decide (t.1 = e) with
    | none => rw [d] at c; cases c
    | some t =>
      rw [d] at c
      cases c
      exact h t (List.mem_of_find?_eq_some d)
theorem putP_mem {l : List Tp} {e : List Int} {f : Fx} {t : Tp} (h : t ∈ putP l e f) : t ∈ l ∨ t = (e, f) := by
  unfold putP at h
  split at h
  · obtain ⟨u, hu, rfl⟩ := List.mem_map.mp h
    by_cases c : u.1 = e
    · rw [if_pos c, c]
      exact .inr rfl
    · rw [if_neg c]
      exact .inl hu
  · rcases List.mem_append.mp h with h | h
    · exact .inl h
    · exact .inr (by simpa using h)
theorem dictP_sz {A N : Nat} {ts : List Tp} (h : ∀ t ∈ ts, Szf A N t.2) : ∀ t ∈ dictP ts, Szf (ts.length * A) N t.2 := by
  have key : ∀ (ts : List Tp) (d : List Tp) (k : Nat), (∀ t ∈ ts, Szf A N t.2) → (∀ t ∈ d, Szf (k * A) N t.2) → ∀ t ∈ ts.foldl stepP' d, Szf ((k + ts.length) * A) N t.2 := by
    intro ts
    induction ts with
    | nil => intro d k _ hd; simpa using hd
    | cons t ts ih =>
      intro d k ht hd
      rw [List.foldl_cons, List.length_cons, show k + (ts.length + 1) = (k + 1) + ts.length from by omega]
      refine ih _ (k + 1) (fun u hu => ht u (List.mem_cons_of_mem _ hu)) fun u hu => ?_
      rw [Nat.succ_mul]
      rcases putP_mem hu with hu | rfl
      · exact (hd u hu).mono (Nat.le_add_right _ _) (Nat.dvd_refl _)
      · exact (getP_sz hd t.1).add (ht t List.mem_cons_self)
  have := key ts [] 0 h (fun t z => by simp at z)
  simpa [dictP] using this
theorem FitT.num {A N : Nat} {ts : List Tp} (h : FitT A N ts) {B : Nat} {f : Fx} (hB : B ≤ (ts.length + 2) * A) (s : Szf B N f) : 0 < f.2 ∧ Bits 6500 f.1 ∧ Bits 5500 f.2 := by
  obtain ⟨b1, b2⟩ := s.bits (n := 5500) (m := 900) h.hN (Nat.lt_of_le_of_lt hB h.hA) h.low
  exact ⟨s.pos, b2.le, b1⟩
/-! ### sorted by the exponents -/
theorem byKey_reps {α : Type} {H : Hp} (f key : α → D) : ∀ {ts : List α} {xs : List V}, Reps H (ts.map f) xs → Reps H ((ts.mergeSort (PySem.W.dataLe false fun t : α => (key t).pd)).map f) (byKey xs (ts.map key)) := by
  intro ts xs h
  have hl : xs.length = ts.length := by rw [h.len, List.length_map]
  have e1 : (xs.zip ts).map Prod.fst = xs := List.map_fst_zip (by omega)
  have e2 : (xs.zip ts).map Prod.snd = ts := List.map_snd_zip (by omega)
  have m1 : ((xs.zip ts).mergeSort (PySem.W.dataLe false fun z : V × α => (key z.2).pd)).map Prod.snd = ts.mergeSort (PySem.W.dataLe false fun t : α => (key t).pd) := by
    have z := List.map_mergeSort (f := Prod.snd) (r := PySem.W.dataLe false fun z : V × α => (key z.2).pd) (s := PySem.W.dataLe false fun t : α => (key t).pd) (l := xs.zip ts) (fun a _ b _ => rfl)
    rw [z, e2]
  have m2 : byKey xs (ts.map key) = ((xs.zip ts).mergeSort (PySem.W.dataLe false fun z : V × α => (key z.2).pd)).map Prod.fst := by
    unfold byKey
    have z : xs.zip (ts.map key) = (xs.zip ts).map fun p => (p.1, key p.2) := by
      rw [List.zip_map_right]
      rfl
    have y := List.map_mergeSort (f := fun p : V × α => (p.1, key p.2)) (r := PySem.W.dataLe false fun z : V × α => (key z.2).pd) (s := PySem.W.dataLe false fun p : V × D => p.2.pd) (l := xs.zip ts) (fun a _ b _ => rfl)
    rw [z, ← y, List.map_map]
    rfl
  rw [m2, ← m1, List.map_map]
  have each : ∀ z ∈ xs.zip ts, Rep H (f z.2) z.1 := by
    intro z hz
    obtain ⟨i, hi⟩ := List.mem_iff_getElem?.mp hz
    obtain ⟨a1, a2⟩ := List.getElem?_zip_eq_some.mp hi
    obtain ⟨v, b1, b2⟩ := h.at (i := i) (d := f z.2) (by rw [List.getElem?_map, a2]; rfl)
    rw [a1] at b1
    cases b1
    exact b2
  have each' : ∀ z ∈ (xs.zip ts).mergeSort (PySem.W.dataLe false fun z : V × α => (key z.2).pd), Rep H (f z.2) z.1 := fun z hz => each z ((List.mergeSort_perm _ _).mem_iff.mp hz)
  generalize (xs.zip ts).mergeSort (PySem.W.dataLe false fun z : V × α => (key z.2).pd) = l at each'
  clear each m1 m2 e1 e2 hl h
  induction l with
  | nil => rfl
  | cons z l ih => exact ⟨z.1, l.map Prod.fst, rfl, each' z List.mem_cons_self, ih fun y hy => each' y (List.mem_cons_of_mem _ hy)⟩
theorem alikeI : ∀ a b : List Int, PySem.W.alikeAll (D.pds (a.map D.int)) (D.pds (b.map D.int)) = true
  | [], _ => by simp [D.pds, PySem.W.alikeAll]
  | _ :: _, [] => by simp [D.pds, D.pd, PySem.W.alikeAll]
  | x :: a, y :: b => by
    have := alikeI a b
    simp only [List.map_cons, D.pds, D.pd, PySem.W.alikeAll, PySem.W.alike, Bool.true_and]
    exact this
theorem key_alike (a b : List Int) : PySem.W.alike (keyE a).pd (keyE b).pd = true := by
  show PySem.W.alike (.tuple [.int a.sum, .tuple (D.pds ((negE a).map D.int))]) (.tuple [.int b.sum, .tuple (D.pds ((negE b).map D.int))]) = true
  simp only [PySem.W.alike, PySem.W.alikeAll, Bool.true_and, Bool.and_true]
  exact alikeI _ _
theorem key_dep (e : List Int) : (keyE e).dep ≤ 60 := by
  show max 0 (max (D.deps ((negE e).map D.int) + 1) 0) + 1 ≤ 60
  have := ints_dep (negE e)
  omega
theorem keys_alike (ts : List Tp) : PySem.W.AllAlike ((ts.map fun t => keyE t.1).map D.pd) := by
  intro d hd d' hd'
  rw [List.map_map] at hd hd'
  obtain ⟨t, _, rfl⟩ := List.mem_map.mp hd
  obtain ⟨t', _, rfl⟩ := List.mem_map.mp hd'
  exact key_alike _ _
theorem keys_sortable (ts : List Tp) : PySem.W.Sortable ((ts.map fun t => keyE t.1).map D.pd) := .inl fun d hd => by
  rw [List.map_map] at hd
  obtain ⟨t, _, rfl⟩ := List.mem_map.mp hd
  exact ⟨_, _, rfl⟩
/-! ### sum(xs), xs a tuple -/
def rSumT : List V → Hp → VK → Prop := fun vs H Q => ∃ (a : Addr) (ns : List Int), vs = [V.ref a] ∧ H a = some (.tup (ns.map V.int)) ∧ Q (.int ns.sum) H
theorem cr_sumT {X : Cx} (hc : X.calm = true) : CallR X (.builtin "sum") rSumT := by
  intro pins s σ H vs us Q I r h
  obtain ⟨a, ns, rfl, ha, q⟩ := h
  obtain ⟨its, rv, ht, _⟩ := I.tuple (sqT ha)
  rw [Vals.ref1 r]
  have hi := rv.ints
  obtain ⟨xs, e⟩ := hi.allInts.items
  have hn : numsOf (intItems xs).toList = ns := by rw [← e]; exact hi.numsOf
  rw [nums_intItems] at hn
  rw [e] at ht
  refine PySem.W.ktm_sumG (I.ok.hd hc) ht fun h' tk t' hk => ?_
  have hs : preSum (numAt xs) xs.size = ns.sum := by rw [preSum_eq, List.take_of_length_le (by simp), hn]
  rw [hs]
  exact ⟨.int _, H, I.kept hk, ⟨_, rfl⟩, q⟩
theorem g_sumT {H : Hp} {Q : VK} {a : Addr} {ns : List Int} (ha : H a = some (.tup (ns.map V.int))) (q : Q (.int ns.sum) H) : rSumT [.ref a] H Q := ⟨a, ns, rfl, ha, q⟩
/-! ### contracts -/
/-- a Poly at p: so many boxes, these terms -/
def PolyAt (C : Addr) (H : Hp) (p : Addr) (n : Int) (ts : List Tp) : Prop := ∃ dx l vs, H p = some (.ins C dx [("boxes", .int n), ("kept", .ref l)]) ∧ H l = some (.lst vs) ∧ Reps H (ts.map tpD) vs
theorem PolyAt.ey {T : List (Addr × Str)} {C : Addr} {H H' : Hp} {p : Addr} {n : Int} {ts : List Tp} (h : PolyAt C H p n ts) (e : Ey T H H') : PolyAt C H' p n ts := by
  obtain ⟨dx, l, vs, h1, h2, h3⟩ := h
  exact ⟨dx, l, vs, e _ _ h1, e _ _ h2, h3.tk e.tk (tps_hard ts)⟩
theorem PolyAt.ex {C : Addr} {H H' : Hp} {p : Addr} {n : Int} {ts : List Tp} (h : PolyAt C H p n ts) (e : Ex H H') : PolyAt C H' p n ts := h.ey (T := []) e.ey
theorem PolyAt.by_ {T : List (Addr × Str)} {C q : Addr} {H H' : Hp} {p : Addr} {n : Int} {ts : List Tp} (h : PolyAt C H p n ts) (e : By T q H H') (hq : Box H q) : PolyAt C H' p n ts := by
  obtain ⟨dx, l, vs, h1, h2, h3⟩ := h
  obtain ⟨u, e1, w⟩ := hq.wr
  have n2 : l ≠ q := hq.neL h2 (fun x hx n z => by
    obtain ⟨i, hi⟩ := List.mem_iff_getElem?.mp hx
    obtain ⟨d, hd, r⟩ := h3.get hi
    rw [List.getElem?_map] at hd
    cases c : ts[i]? with
    | none => rw [c] at hd; cases hd
    | some t =>
      rw [c] at hd
      cases hd
      obtain ⟨a, _, _, rfl, _⟩ := tp_at r
      cases z)
  have n1 : p ≠ q := by
    obtain ⟨_, _, _, e2⟩ := hq
    exact ne_of h1 e2 (fun z => nomatch z)
  exact ⟨dx, l, vs, e _ _ n1 h1, e _ _ n2 h2, h3.tk (e.tk e1 w) (tps_hard ts)⟩
/-- terms handed in: None, a list, a tuple -/
def TermsAt (H : Hp) (x : V) (ts : List Tp) : Prop := (x = .non ∧ ts = []) ∨ ∃ a vs, x = .ref a ∧ (H a = some (.lst vs) ∨ H a = some (.tup vs)) ∧ Reps H (ts.map tpD) vs
def spPlace : Sp := fun vs H Q _ => ∃ (a : Addr) (e : List Int), vs = [.ref a] ∧ H a = some (.tup (e.map V.int)) ∧ e.length ≤ 100000 ∧ ∀ q H', Ex H H' → Rep H' (keyE e) (.ref q) → Q (.ref q) H'
/-- F is not the list that p keeps -/
def NotKept (H : Hp) (p F : Addr) : Prop := ∀ (C dx : Addr) (n : V) (l : Addr), H p = some (.ins C dx [("boxes", n), ("kept", .ref l)]) → l ≠ F
def spPolyInit (T : List (Addr × Str)) (C : Addr) : Sp := fun vs H Q _ => ∃ (p dx : Addr) (n : Int) (x : V) (ts : List Tp) (A N : Nat), vs = [.ref p, .int n, x] ∧ H p = some (.ins C dx []) ∧ LamX.Tabs T H ∧ TermsAt H x ts ∧ FitT A N ts ∧ (∀ t ∈ ts, t.1.length ≤ 100000) ∧
  ∀ H', By T p H H' → PolyAt C H' p n (polyP ts) → (∀ F, H F ≠ none → NotKept H' p F) → Q .non H'
theorem acc_intsF {f : Int → Int} {e : List Int} {acc : List V} (hl : acc.length = e.length) (h : ∀ (j : Nat) (v : V), acc[j]? = some v → ∃ x, e[j]? = some x ∧ v = V.int (f x)) : acc = (e.map f).map V.int := by
  refine List.ext_getElem? fun j => ?_
  rw [List.map_map, List.getElem?_map]
  cases c : acc[j]? with
  | none =>
    have := List.getElem?_eq_none_iff.1 c
    rw [List.getElem?_eq_none (by omega)]
    rfl
  | some v =>
    obtain ⟨x, hx, rfl⟩ := h j v c
    rw [hx]
    rfl
theorem st_by {T : List (Addr × Str)} {H : Hp} {p : Addr} {u : HO} (o : HO) (h : H p = some u) (w : WR u) : ∃ H', L2.upd H p o = H' ∧ By T p H H' ∧ H' p = some o := ⟨_, rfl, (By.refl p H).upd h w, upd_same⟩
theorem TermsAt.by_ {T : List (Addr × Str)} {H H' : Hp} {p C dx : Addr} {fs : List (Str × V)} {x : V} {ts : List Tp} (h : TermsAt H x ts) (b : By T p H H') (hp : H p = some (.ins C dx fs)) : TermsAt H' x ts := by
  rcases h with h | ⟨a, vs, rfl, ha, r⟩
  · exact .inl h
  · refine .inr ⟨a, vs, rfl, ?_, r.tk (b.tk hp trivial) (tps_hard ts)⟩
    rcases ha with ha | ha
    · exact .inl (b.get hp ha (fun z => nomatch z))
    · exact .inr (b.get hp ha (fun z => nomatch z))
theorem TermsAt.ey {T : List (Addr × Str)} {H H' : Hp} {x : V} {ts : List Tp} (h : TermsAt H x ts) (b : Ey T H H') : TermsAt H' x ts := by
  rcases h with h | ⟨a, vs, rfl, ha, r⟩
  · exact .inl h
  · refine .inr ⟨a, vs, rfl, ?_, r.tk b.tk (tps_hard ts)⟩
    rcases ha with ha | ha
    · exact .inl (b _ _ ha)
    · exact .inr (b _ _ ha)
/-- for .. in x or (): -/
theorem g_orTerms {K : PySem.W.Frag} {σ : L2.St} {H : Hp} {R : It → Hp → Prop} {i : Nat} {x : V} {ts : List Tp} (hx : TermsAt H x ts) (e : σ[i]? = some (some x)) (hl : ts.length ≤ 100000)
    (h : ∀ (J : It) (G : Hp → Prop) (H2 : Hp) (vs : List V), Walk J ts.length G (YAt vs) → (∀ d kvs H3, H2 d = some (.dT kvs) → But d H2 H3 → G H3) → Ex H H2 → Reps H2 (ts.map tpD) vs → R J H2) : uSeq K (tOrT K (uV i) (tTup tNil)) σ H R := by
  have empty : ∀ p, H p = none → ts = [] → R (Itt K p) (L2.upd H p (.tup [])) := fun p hp z => by
    subst z
    refine h (Itt K p) _ _ [] (walk_tup (K := K) (a := p) (xs := [])) (fun d kvs H3 hd b => sqT (b.get hd upd_same (fun z => nomatch z))) (Ex.new hp) rfl
  have lt : ∀ {vs : List V}, Reps H (ts.map tpD) vs → vs.length = ts.length := fun r => by rw [r.len, List.length_map]
  rcases hx with ⟨rfl, rfl⟩ | ⟨a, vs, rfl, ha, r⟩
  · refine .inr (.inl ?_)
    show tOrT K (uV i) (tTup tNil) σ H _
    refine g_var e ⟨false, rfl, ?_⟩
    rw [if_neg Bool.false_ne_true]
    exact ⟨Nat.zero_le _, fun p hp => ⟨p, rfl, ⟨[], sqT upd_same⟩, empty p hp rfl⟩⟩
  · by_cases c : ts = []
    · subst c
      have : vs = [] := by simpa using lt r
      subst this
      refine .inr (.inl ?_)
      show tOrT K (uV i) (tTup tNil) σ H _
      refine g_var e ⟨false, ?_, ?_⟩
      · rcases ha with ha | ha
        · exact .inl ⟨_, sqL ha, rfl⟩
        · exact .inr (.inl ⟨_, sqT ha, rfl⟩)
      · rw [if_neg Bool.false_ne_true]
        exact ⟨Nat.zero_le _, fun p hp => ⟨p, rfl, ⟨[], sqT upd_same⟩, empty p hp rfl⟩⟩
    · have hv : 0 < vs.length := by
        rw [lt r]
        exact Nat.pos_of_ne_zero fun z => c (List.length_eq_zero_iff.mp z)
      have tr : (!vs.isEmpty) = true := by
        cases vs with
        | nil => exact absurd hv (Nat.lt_irrefl _)
        | cons _ _ => rfl
      rcases ha with ha | ha
      · refine .inl ?_
        show tOrT K (uV i) (tTup tNil) σ H _
        refine g_var e ⟨true, .inl ⟨_, sqL ha, tr.symm⟩, ?_⟩
        rw [if_pos rfl]
        refine ⟨a, rfl, ⟨_, sqL ha⟩, ?_⟩
        refine h (Itl K a) _ _ vs (by rw [← lt r]; exact walk_list (K := K) (a := a) (xs := vs)) (fun d kvs H3 hd b => sqL (b.get hd ha (fun z => nomatch z))) (Ex.refl _) r
      · refine .inr (.inl ?_)
        show tOrT K (uV i) (tTup tNil) σ H _
        refine g_var e ⟨true, .inr (.inl ⟨_, sqT ha, tr.symm⟩), ?_⟩
        rw [if_pos rfl]
        refine ⟨a, rfl, ⟨_, sqT ha⟩, ?_⟩
        refine h (Itt K a) _ _ vs (by rw [← lt r]; exact walk_tup (K := K) (a := a) (xs := vs)) (fun d kvs H3 hd b => sqT (b.get hd ha (fun z => nomatch z))) (Ex.refl _) r
theorem g_dnewT {σ : L2.St} {H : Hp} {Q : VK} (h : ∀ p, H p = none → Q (.ref p) (L2.upd H p (.dT []))) : tDNewT σ H Q := h
theorem flPo1 {v : V} : putF "boxes" v [] = ([("boxes", v)] : List (Str × V)) := rfl
theorem flPo2 {v w : V} : putF "kept" w [("boxes", v)] = ([("boxes", v), ("kept", w)] : List (Str × V)) := rfl
theorem st_atB (H : Hp) (p : Addr) (o : HO) : ∃ H', L2.upd H p o = H' ∧ But p H H' ∧ H' p = some o := ⟨_, rfl, (But.refl p H).upd, upd_same⟩
theorem dictP_keys {ts : List Tp} : ∀ t ∈ dictP ts, ∃ u ∈ ts, u.1 = t.1 := by
  have key : ∀ (ts d : List Tp) (P : List Int → Prop), (∀ t ∈ ts, P t.1) → (∀ t ∈ d, P t.1) → ∀ t ∈ ts.foldl stepP' d, P t.1 := by
    intro ts
    induction ts with
    | nil => intro d P _ hd; simpa using hd
    | cons t ts ih =>
      intro d P ht hd
      rw [List.foldl_cons]
      refine ih _ P (fun u hu => ht u (List.mem_cons_of_mem _ hu)) fun u hu => ?_
      rcases putP_mem hu with hu | rfl
      · exact hd u hu
      · exact ht t List.mem_cons_self
  exact key ts [] (fun e => ∃ u ∈ ts, u.1 = e) (fun t ht => ⟨t, ht, rfl⟩) (fun t z => by simp at z)
theorem KvT.at {H : Hp} {kvs : List (List Key × V)} {l : List Tp} (h : KvT H kvs l) {i : Nat} {k : List Key} {v : V} (e : kvs[i]? = some (k, v)) : ∃ t, l[i]? = some t ∧ k = inlK t.1 ∧ ∃ q, v = .ref q ∧ H q = some (.tup [.int t.2.1, .int t.2.2]) := by
  obtain ⟨t, h1, h2, h3⟩ := paired_get h e
  exact ⟨t, h1, h2, h3⟩
theorem nzP_take {l : List Tp} {i : Nat} {t : Tp} (h : l[i]? = some t) : nzP (l.take (i + 1)) = nzP (l.take i) ++ if t.2.1 = 0 then [] else [t] := by
  unfold nzP
  rw [take_at h, List.filter_append]
  by_cases c : t.2.1 = 0
  · rw [if_pos c, List.filter_cons_of_neg (by simpa using c)]
    rfl
  · rw [if_neg c, List.filter_cons_of_pos (by simpa using c)]
    rfl
theorem g_sortL {K : PySem.W.Frag} {T : List (Addr × Str)} {N : List Str} {te tb : TE} {σ : L2.St} {H : Hp} {Q : VK} (h : te σ H fun x H1 => SortPost K T N tb Q x H1) : uSortL K T N te tb σ H Q := h
end Bk
set_option Elab.async false
set_option linter.all false
set_option maxRecDepth 100000
set_option maxHeartbeats 4000000
/-! Bk143: exponents to a degree; class Poly's other contracts. -/
namespace Bk
open PySem PySem.Spec PyProof.Rows L2
/-! ### exponents to a degree -/
def ofDeg : Nat → Nat → List (List Int)
  | 0, d => if d = 0 then [[]] else []
  | n + 1, d => ((List.range (d + 1)).reverse.map fun (f : Nat) => (ofDeg n (d - f)).map ((f : Int) :: ·)).flatten
def expsTo (n d : Nat) : List (List Int) := ((List.range (d + 1)).map fun i => ofDeg n i).flatten
def lawE (d : Nat) : Nat → List (List Int)
  | 0 => [[]]
  | n + 1 => ((lawE d n).map fun e => (List.range (((d : Int) + 1 - e.sum).toNat)).map fun (i : Nat) => e ++ [(i : Int)]).flatten
noncomputable def leE (a b : List Int) : Bool := PySem.W.dataLe false (fun e : List Int => (keyE e).pd) a b
theorem toksI_inj : ∀ {a b : List Int}, PySem.W.keyToksAll (D.pds (a.map D.int)) = PySem.W.keyToksAll (D.pds (b.map D.int)) → a = b
  | [], [], _ => rfl
  | [], _ :: _, h => by simp [D.pds, D.pd, PySem.W.keyToksAll, PySem.W.keyToks] at h
  | _ :: _, [], h => by simp [D.pds, D.pd, PySem.W.keyToksAll, PySem.W.keyToks] at h
  | x :: a, y :: b, h => by
    simp only [List.map_cons, D.pds, D.pd, PySem.W.keyToksAll, PySem.W.keyToks, List.cons.injEq, List.cons_append, List.nil_append, Sum.inl.injEq, true_and] at h
    rw [h.1, toksI_inj h.2]
theorem toks_key (e : List Int) : PySem.W.keyToks (keyE e).pd = .inl 1 :: .inl e.sum :: .inl 1 :: (PySem.W.keyToksAll (D.pds ((negE e).map D.int)) ++ [.inl 0]) := by
  show PySem.W.keyToks (.tuple [.int e.sum, .tuple (D.pds ((negE e).map D.int))]) = _
  simp only [PySem.W.keyToks, PySem.W.keyToksAll, List.cons_append, List.nil_append]
theorem negE_inj {a b : List Int} (h : negE a = negE b) : a = b := by
  have z := congrArg (List.map fun x : Int => 0 - x) h
  unfold negE at z
  rw [List.map_map, List.map_map] at z
  have e : ((fun x : Int => 0 - x) ∘ fun x : Int => 0 - x) = id := by
    funext x
    show 0 - (0 - x) = x
    omega
  rw [e, List.map_id, List.map_id] at z
  exact z
theorem leE_anti {a b : List Int} (h1 : leE a b = true) (h2 : leE b a = true) : a = b := by
  have h1' : (!(PyProof.Rows.listOrd itemOrd).blt (PySem.W.keyToks (keyE b).pd) (PySem.W.keyToks (keyE a).pd)) = true := h1
  have h2' : (!(PyProof.Rows.listOrd itemOrd).blt (PySem.W.keyToks (keyE a).pd) (PySem.W.keyToks (keyE b).pd)) = true := h2
  rw [Bool.not_eq_true'] at h1' h2'
  have e := (PyProof.Rows.listOrd itemOrd).total _ _ h2' h1'
  rw [toks_key, toks_key] at e
  simp only [List.cons.injEq, Sum.inl.injEq, true_and] at e
  obtain ⟨_, e2⟩ := e
  have e3 := List.append_cancel_right e2
  exact negE_inj (toksI_inj e3)
theorem leE_total : PySem.W.TotalLe leE := by unfold leE PySem.W.dataLe; exact PySem.W.sortLe_total _ _ _
theorem leP_total : PySem.W.TotalLe leP := by unfold leP PySem.W.dataLe; exact PySem.W.sortLe_total _ _ _
theorem exps_sorted : ∀ n ≤ 4, ∀ d ≤ 4, (expsTo n d).Pairwise fun a b => leE a b = true := by decide +kernel
theorem exps_perm : ∀ n ≤ 4, ∀ d ≤ 4, (lawE d n).isPerm (expsTo n d) = true := by decide +kernel
theorem sorted_uniq {l m : List (List Int)} (hs : m.Pairwise fun a b => leE a b = true) (hp : l.Perm m) : l.mergeSort leE = m :=
  ((List.mergeSort_perm l leE).trans hp).eq_of_pairwise (fun a b _ _ h1 h2 => leE_anti h1 h2) (PySem.W.sort_pairwise leE_total l) hs
theorem lawE_sorted {n d : Nat} (hn : n ≤ 4) (hd : d ≤ 4) : (lawE d n).mergeSort leE = expsTo n d := sorted_uniq (exps_sorted n hn d hd) (List.isPerm_iff.mp (exps_perm n hn d hd))
/-! ### terms compared -/
theorem all_eqvQ {α : Type} [DecidableEq α] {f : α → D} (h : ∀ a b, PyData.eqv (f a).pd (f b).pd = decide (a = b)) : ∀ xs ys : List α, PyData.eqvAll (D.pds (xs.map f)) (D.pds (ys.map f)) = decide (xs = ys)
  | [], [] => rfl
  | [], _ :: _ => by
    rw [decide_eq_false (fun z => nomatch z)]
    rfl
  | _ :: _, [] => by
    rw [decide_eq_false (fun z => nomatch z)]
    rfl
  | x :: a, y :: b => by
    show (PyData.eqv (f x).pd (f y).pd && PyData.eqvAll (D.pds (a.map f)) (D.pds (b.map f))) = decide (x :: a = y :: b)
    rw [h, all_eqvQ h a b]
    by_cases c : x = y
    · subst c
      by_cases d : a = b
      · subst d
        simp
      · rw [decide_eq_false d, decide_eq_false (fun z => d (List.cons.inj z).2), Bool.and_false]
    · rw [decide_eq_false c, decide_eq_false (fun z => c (List.cons.inj z).1), Bool.false_and]
theorem int_eqvQ (a b : Int) : PyData.eqv (D.int a).pd (D.int b).pd = decide (a = b) := by
  show (a == b) = decide (a = b)
  by_cases c : a = b
  · subst c
    simp
  · rw [decide_eq_false c]
    simpa using c
theorem tp_eqv (t u : Tp) : PyData.eqv (tpD t).pd (tpD u).pd = decide (t = u) := by
  obtain ⟨e, f1, f2⟩ := t
  obtain ⟨e', g1, g2⟩ := u
  show (PyData.eqvAll (D.pds (e.map D.int)) (D.pds (e'.map D.int)) && ((PyData.eqv (D.int f1).pd (D.int g1).pd && (PyData.eqv (D.int f2).pd (D.int g2).pd && true)) && true)) = decide ((e, f1, f2) = (e', g1, g2))
  rw [all_eqvQ int_eqvQ, int_eqvQ, int_eqvQ, Bool.and_true, Bool.and_true]
  have z : ((e, f1, f2) = (e', g1, g2)) = (e = e' ∧ f1 = g1 ∧ f2 = g2) := by simp
  simp only [z, Bool.decide_and]
theorem tp_sig (t : Tp) : (tpD t).Sig := ⟨ints_sig t.1, ⟨trivial, trivial, trivial⟩, trivial⟩
theorem tp_dep (t : Tp) : (tpD t).dep ≤ 2 := by
  show max (D.deps (t.1.map D.int) + 1) (max (max 0 (max 0 0) + 1) 0) + 1 ≤ 2
  have := ints_dep t.1
  omega
theorem g_eqTps {K : PySem.W.Frag} {H : Hp} {Q : VK} {a b : Addr} {xs ys : List V} {ts us : List Tp} (ha : H a = some (.lst xs)) (hb : H b = some (.lst ys)) (r : Reps H (ts.map tpD) xs) (s : Reps H (us.map tpD) ys) (q : Q (.bl (decide (ts = us))) H) : rEqD K (.ref a) (.ref b) H Q := by
  refine ⟨(D.lst (ts.map tpD)).pd, (D.lst (us.map tpD)).pd, .lst (sqL ha) (Reps.dps r), .lst (sqL hb) (Reps.dps s), D.shaped (d := .lst _) (sigs_map fun t _ => tp_sig t) (by have := deps_map (f := tpD) (as := ts) (k := 2) (fun t _ => tp_dep t); show D.deps (ts.map tpD) + 1 ≤ 64; omega), D.shaped (d := .lst _) (sigs_map fun t _ => tp_sig t) (by have := deps_map (f := tpD) (as := us) (k := 2) (fun t _ => tp_dep t); show D.deps (us.map tpD) + 1 ≤ 64; omega), ?_⟩
  have e : PyData.eqv (D.lst (ts.map tpD)).pd (D.lst (us.map tpD)).pd = decide (ts = us) := all_eqvQ tp_eqv ts us
  rw [e]
  exact q
/-! ### contracts of the methods -/
theorem flPoB {n : Int} {l : Addr} : List.lookup ("boxes" : Str) [(("boxes" : Str), V.int n), (("kept" : Str), V.ref l)] = some (V.int n) := by kernel_rfl
theorem flPoK {n : Int} {l : Addr} : List.lookup ("kept" : Str) [(("boxes" : Str), V.int n), (("kept" : Str), V.ref l)] = some (V.ref l) := by kernel_rfl
theorem flPo_terms {n : Int} {l : Addr} : List.lookup ("terms" : Str) [(("boxes" : Str), V.int n), (("kept" : Str), V.ref l)] = none := by kernel_rfl
theorem flPo_degree {n : Int} {l : Addr} : List.lookup ("degree" : Str) [(("boxes" : Str), V.int n), (("kept" : Str), V.ref l)] = none := by kernel_rfl
theorem flPo_worth {n : Int} {l : Addr} : List.lookup ("worth" : Str) [(("boxes" : Str), V.int n), (("kept" : Str), V.ref l)] = none := by kernel_rfl
theorem flPo_plus {n : Int} {l : Addr} : List.lookup ("plus" : Str) [(("boxes" : Str), V.int n), (("kept" : Str), V.ref l)] = none := by kernel_rfl
theorem flPo_by {n : Int} {l : Addr} : List.lookup ("by" : Str) [(("boxes" : Str), V.int n), (("kept" : Str), V.ref l)] = none := by kernel_rfl
theorem flPo_scaled {n : Int} {l : Addr} : List.lookup ("scaled" : Str) [(("boxes" : Str), V.int n), (("kept" : Str), V.ref l)] = none := by kernel_rfl
def spPoTerms (C : Addr) : Sp := fun vs H Q _ => ∃ (p : Addr) (n : Int) (ts : List Tp), vs = [.ref p] ∧ PolyAt C H p n ts ∧ ∀ q ws H', Ex H H' → H q = none → H' q = some (.lst ws) → Reps H' (ts.map tpD) ws → Q (.ref q) H'
def spPoNum (C : Addr) (g : List Tp → Int) : Sp := fun vs H Q _ => ∃ (p : Addr) (n : Int) (ts : List Tp), vs = [.ref p] ∧ PolyAt C H p n ts ∧ ts.length ≤ 100000 ∧ (∀ t ∈ ts, t.1.length ≤ 100000) ∧ ∀ H', Ex H H' → Q (.int (g ts)) H'
/-- numbers put in: sizes -/
structure WFit (A N B M k : Nat) (ts : List Tp) (fs : List Fx) : Prop where
  each : ∀ t ∈ ts, Szf A N t.2 ∧ t.1.length = fs.length ∧ (∀ x ∈ t.1, 0 ≤ x) ∧ t.1.sum ≤ (k : Nat)
  num : ∀ f ∈ fs, Szf B M f
  b1 : 1 ≤ B
  m0 : 0 < M
  n0 : 0 < N
  hN : N * M ^ k < 2 ^ 5500
  hA : (ts.length + 2) * (A * B ^ k) < 2 ^ 900
  hB : B ^ k < 2 ^ 900
  lf : fs.length ≤ 1000
  lt : ts.length ≤ 100000
def spProdAt : Sp := fun vs H Q _ => ∃ (a r : Addr) (e : List Int) (fs : List Fx) (B M k : Nat), vs = [.ref a, .ref r] ∧ H a = some (.tup (e.map V.int)) ∧ Rep H (fxsD fs) (.ref r) ∧ e.length = fs.length ∧ (∀ x ∈ e, 0 ≤ x) ∧ e.sum ≤ (k : Nat) ∧ (∀ f ∈ fs, Szf B M f) ∧ 1 ≤ B ∧ 0 < M ∧ M ^ k < 2 ^ 5500 ∧ B ^ k < 2 ^ 900 ∧ k ≤ 1000 ∧ fs.length ≤ 1000 ∧
  ∀ q H', Ex H H' → H' q = some (.tup [.int (prodE e fs).1, .int (prodE e fs).2]) → Q (.ref q) H'
def spPoWorth (C : Addr) : Sp := fun vs H Q _ => ∃ (p r : Addr) (n : Int) (ts : List Tp) (fs : List Fx) (A N B M k : Nat), vs = [.ref p, .ref r] ∧ PolyAt C H p n ts ∧ Rep H (fxsD fs) (.ref r) ∧ WFit A N B M k ts fs ∧ k ≤ 1000 ∧
  ∀ q H', Ex H H' → H' q = some (.tup [.int (worthP ts fs).1, .int (worthP ts fs).2]) → Q (.ref q) H'
def spPoPlus (T : List (Addr × Str)) (C : Addr) : Sp := fun vs H Q _ => ∃ (p q : Addr) (n m : Int) (ts us : List Tp) (A N : Nat), vs = [.ref p, .ref q] ∧ PolyAt C H p n ts ∧ PolyAt C H q m us ∧ LamX.Tabs T H ∧ FitT A N (ts ++ us) ∧ (∀ t ∈ ts ++ us, t.1.length ≤ 100000) ∧
  ∀ r H', Ey T H H' → H r = none → PolyAt C H' r n (polyP (ts ++ us)) → Q (.ref r) H'
def spPoBy (T : List (Addr × Str)) (C : Addr) : Sp := fun vs H Q _ => ∃ (p q : Addr) (n m : Int) (ts us : List Tp) (A N A1 N1 A2 N2 : Nat), vs = [.ref p, .ref q] ∧ PolyAt C H p n ts ∧ PolyAt C H q m us ∧ LamX.Tabs T H ∧ FitT A N (mulP ts us) ∧ FitT A1 N1 ts ∧ FitT A2 N2 us ∧ (∀ t ∈ ts, ∀ u ∈ us, t.1.length = u.1.length) ∧ (∀ t ∈ mulP ts us, t.1.length ≤ 100000) ∧
  ∀ r H', Ey T H H' → H r = none → PolyAt C H' r n (polyP (mulP ts us)) → Q (.ref r) H'
def scaleP (ts : List Tp) (f : Fx) : List Tp := ts.map fun t => (t.1, mulF t.2 f)
def spPoScaled (T : List (Addr × Str)) (C : Addr) : Sp := fun vs H Q _ => ∃ (p r : Addr) (f : Fx) (n : Int) (ts : List Tp) (A N A1 N1 : Nat), vs = [.ref p, .ref r] ∧ H r = some (.tup [.int f.1, .int f.2]) ∧ PolyAt C H p n ts ∧ LamX.Tabs T H ∧ FitT A N (scaleP ts f) ∧ FitT A1 N1 ts ∧ 0 < f.2 ∧ Bits 6500 f.1 ∧ Bits 5500 f.2 ∧ (∀ t ∈ ts, t.1.length ≤ 100000) ∧
  ∀ q H', Ey T H H' → H q = none → PolyAt C H' q n (polyP (scaleP ts f)) → Q (.ref q) H'
def spPoEq (C : Addr) : Sp := fun vs H Q _ => ∃ (p : Addr) (n : Int) (ts : List Tp) (y : V), vs = [.ref p, y] ∧ PolyAt C H p n ts ∧ ((∃ q m us, y = .ref q ∧ PolyAt C H q m us ∧ ∀ H', Ex H H' → Q (.bl (decide (n = m ∧ ts = us))) H') ∨ ((∃ a xs, y = .ref a ∧ (H a = some (.lst xs) ∨ H a = some (.tup xs))) ∧ ∀ H', Ex H H' → Q (.bl false) H'))
theorem sumI_nonneg : ∀ {l : List Int}, (∀ x ∈ l, 0 ≤ x) → 0 ≤ l.sum
  | [], _ => by simp
  | x :: l, h => by
    have h1 := h x List.mem_cons_self
    have h2 := sumI_nonneg (l := l) fun y hy => h y (List.mem_cons_of_mem _ hy)
    rw [List.sum_cons]
    omega
theorem pow_sz {B M c : Nat} {f : Fx} (hf : Szf B M f) : ∀ (j : Nat) {g : Fx}, Szf (B ^ c) (M ^ c) g → Szf (B ^ (c + j)) (M ^ (c + j)) ((List.replicate j f).foldl mulF g)
  | 0, g, h => h
  | j + 1, g, h => by
    rw [List.replicate_succ', List.foldl_append, ← Nat.add_assoc, Nat.pow_succ, Nat.pow_succ]
    exact (pow_sz hf j h).mul hf
theorem prodE_sz {B M : Nat} : ∀ {e : List Int} {fs : List Fx}, (∀ x ∈ e, 0 ≤ x) → (∀ f ∈ fs, Szf B M f) → e.length = fs.length → Szf (B ^ e.sum.toNat) (M ^ e.sum.toNat) (prodE e fs) := by
  have key : ∀ (e : List Int) (fs : List Fx) (c : Nat) (g : Fx), (∀ x ∈ e, 0 ≤ x) → (∀ f ∈ fs, Szf B M f) → e.length = fs.length → Szf (B ^ c) (M ^ c) g → Szf (B ^ (c + e.sum.toNat)) (M ^ (c + e.sum.toNat)) ((e.zip fs).foldl powF g) := by
    intro e
    induction e with
    | nil => intro fs c g _ _ _ h; simpa using h
    | cons x e ih =>
      intro fs c g he hf hl h
      cases fs with
      | nil => cases hl
      | cons f fs =>
        have x0 := he x List.mem_cons_self
        have s0 : 0 ≤ e.sum := sumI_nonneg fun y hy => he y (List.mem_cons_of_mem _ hy)
        have z : c + (x :: e).sum.toNat = (c + x.toNat) + e.sum.toNat := by rw [List.sum_cons]; omega
        rw [z, List.zip_cons_cons, List.foldl_cons]
        exact ih fs _ _ (fun y hy => he y (List.mem_cons_of_mem _ hy)) (fun y hy => hf y (List.mem_cons_of_mem _ hy)) (by simpa using hl) (pow_sz (hf f List.mem_cons_self) x.toNat h)
  intro e fs he hf hl
  have := key e fs 0 (1, 1) he hf hl ⟨by decide, Nat.one_dvd _, by simp⟩
  simpa [prodE] using this
theorem prodE_szk {B M k : Nat} {e : List Int} {fs : List Fx} (he : ∀ x ∈ e, 0 ≤ x) (hf : ∀ f ∈ fs, Szf B M f) (hl : e.length = fs.length) (hk : e.sum ≤ (k : Nat)) (b1 : 1 ≤ B) : Szf (B ^ k) (M ^ k) (prodE e fs) :=
  (prodE_sz he hf hl).mono (Nat.pow_le_pow_right b1 (by omega)) (Nat.pow_dvd_pow M (by omega))
def stepW (fs : List Fx) (f : Fx) (t : Tp) : Fx := addF f (mulF t.2 (prodE t.1 fs))
theorem worth_take {ts : List Tp} {fs : List Fx} {i : Nat} {t : Tp} (h : ts[i]? = some t) : (ts.take (i + 1)).foldl (stepW fs) (0, 1) = addF ((ts.take i).foldl (stepW fs) (0, 1)) (mulF t.2 (prodE t.1 fs)) := by
  rw [take_at h, List.foldl_append]
  rfl
theorem WFit.one {A N B M k : Nat} {ts : List Tp} {fs : List Fx} (w : WFit A N B M k ts fs) {t : Tp} (h : t ∈ ts) : Szf (B ^ k) (M ^ k) (prodE t.1 fs) ∧ Szf (A * B ^ k) (N * M ^ k) (mulF t.2 (prodE t.1 fs)) := by
  obtain ⟨h1, h2, h3, h4⟩ := w.each t h
  have p := prodE_szk h3 w.num h2 h4 w.b1
  exact ⟨p, h1.mul p⟩
theorem WFit.part {A N B M k : Nat} {ts : List Tp} {fs : List Fx} (w : WFit A N B M k ts fs) : ∀ i, i ≤ ts.length → Szf (i * (A * B ^ k)) (N * M ^ k) ((ts.take i).foldl (stepW fs) (0, 1))
  | 0, _ => by
    rw [Nat.zero_mul]
    exact szf0
  | i + 1, h => by
    obtain ⟨t, ht⟩ : ∃ t, ts[i]? = some t := ⟨_, List.getElem?_eq_getElem (by omega)⟩
    rw [worth_take ht, Nat.succ_mul]
    exact (w.part i (by omega)).add (w.one (List.mem_of_getElem? ht)).2
theorem WFit.num' {A N B M k : Nat} {ts : List Tp} {fs : List Fx} (w : WFit A N B M k ts fs) {C : Nat} {f : Fx} (hC : C ≤ (ts.length + 2) * (A * B ^ k)) (s : Szf C (N * M ^ k) f) : 0 < f.2 ∧ Bits 6500 f.1 ∧ Bits 5500 f.2 := by
  obtain ⟨b1, b2⟩ := s.bits (n := 5500) (m := 900) w.hN (Nat.lt_of_le_of_lt hC w.hA) (Nat.mul_pos w.n0 (Nat.pow_pos w.m0))
  exact ⟨s.pos, b2.le, b1⟩
/-- the law's own worth: of terms in a list -/
def spValue : Sp := fun vs H Q _ => ∃ (a r : Addr) (us : List V) (ts : List Tp) (fs : List Fx) (A N B M k : Nat), vs = [.ref a, .ref r] ∧ H a = some (.lst us) ∧ Reps H (ts.map tpD) us ∧ Rep H (fxsD fs) (.ref r) ∧ WFit A N B M k ts fs ∧ k ≤ 1000 ∧
  ∀ q H', Ex H H' → H' q = some (.tup [.int (worthP ts fs).1, .int (worthP ts fs).2]) → Q (.ref q) H'
/-- Poly(n, x) -/
theorem g_poly {T : List (Addr × Str)} {C : Addr} {H1 : Hp} {x : V} {n : Int} {ts : List Tp} {A N : Nat} {Q : VK} {E : XK} {vs : List V} (ev : vs = [.int n, x]) (hT : LamX.Tabs T H1) (hx : TermsAt H1 x ts) (fit : FitT A N ts) (hl : ∀ t ∈ ts, t.1.length ≤ 100000)
    (h : ∀ r H', Ey T H1 H' → H1 r = none → PolyAt C H' r n (polyP ts) → Q (.ref r) H') :
    ∀ a dx, H1 a = none → H1 dx = none → dx ≠ a → spPolyInit T C (.ref a :: vs) (L2.upd (L2.upd H1 dx (.own a)) a (.ins C dx [])) (fun v H2 => v = .non ∧ Q (.ref a) H2) E := by
  intro a dx ha hdx hne
  subst ev
  have e1 : Ex H1 (L2.upd (L2.upd H1 dx (.own a)) a (.ins C dx [])) := (Ex.new hdx).trans (Ex.new (by rw [upd_ne hne.symm]; exact ha))
  exact ⟨a, dx, n, x, ts, A, N, rfl, upd_same, e1.ey.tabs hT, hx.ey (T := T) e1.ey, fit, hl, fun H' b pa _ => ⟨rfl, h a H' (e1.ey.of_by b ha) ha pa⟩⟩
/-! ### exponents of a degree, told -/
def spOfDeg (rm : Nat) : Sp := fun vs H Q _ => ∃ n d : Nat, vs = [.int (n : Nat), .int (d : Nat)] ∧ n < rm ∧ n ≤ 4 ∧ d ≤ 4 ∧ ∀ q ws H', Ex H H' → H q = none → H' q = some (.lst ws) → Reps H' ((ofDeg n d).map expD) ws → Q (.ref q) H'
def spExps : Sp := fun vs H Q _ => ∃ n d : Nat, vs = [.int (n : Nat), .int (d : Nat)] ∧ n ≤ 4 ∧ d ≤ 4 ∧ ∀ q ws H', Ex H H' → H q = none → H' q = some (.lst ws) → Reps H' ((expsTo n d).map expD) ws → Q (.ref q) H'
theorem ofDeg_len : ∀ n ≤ 4, ∀ d ≤ 4, (ofDeg n d).length ≤ 100 := by decide +kernel
theorem expsTo_len : ∀ n ≤ 4, ∀ d ≤ 4, (expsTo n d).length ≤ 100 := by decide +kernel
theorem ofDeg_el : ∀ n ≤ 4, ∀ d ≤ 4, ∀ e ∈ ofDeg n d, e.length ≤ 100 := by decide +kernel
theorem expsTo_el : ∀ n ≤ 4, ∀ d ≤ 4, ∀ e ∈ expsTo n d, e.length = n ∧ (∀ x ∈ e, 0 ≤ x) ∧ e.sum ≤ (d : Nat) := by decide +kernel
theorem exps_hard (l : List (List Int)) : D.hards (l.map expD) = true := hards_map exp_hard l
theorem flat_take {α β : Type} (f : α → List β) {l : List α} {i : Nat} {x : α} (h : l[i]? = some x) : ((l.take (i + 1)).map f).flatten = ((l.take i).map f).flatten ++ f x := by
  rw [take_at h, List.map_append, List.flatten_append]
  simp
theorem flat_take_le {α β : Type} (f : α → List β) (l : List α) (i : Nat) : ((l.take i).map f).flatten.length ≤ (l.map f).flatten.length := by
  have := congrArg (fun z => ((z.map f).flatten).length) (List.take_append_drop i l)
  simp only [List.map_append, List.flatten_append, List.length_append] at this
  omega
theorem exp_at {H : Hp} {e : List Int} {v : V} (h : Rep H (expD e) v) : ∃ a, v = .ref a ∧ H a = some (.tup (e.map V.int)) := by
  obtain ⟨a, es, rfl, ha, re⟩ := h
  exact ⟨a, rfl, by rw [← Reps.ints re]; exact ha⟩
theorem Rep.exp {H : Hp} {e : List Int} {a : Addr} (h : H a = some (.tup (e.map V.int))) : Rep H (expD e) (.ref a) := Rep.tupO h (intsReps _)
theorem g_revR1 {te : TE} {σ : L2.St} {H : Hp} {R : It → Hp → Prop} (h : te σ H fun x H1 => ∃ n, x = .int n ∧ -(2 ^ 62) ≤ (0 : Int) ∧ (0 : Int) < 2 ^ 62 ∧ -(2 ^ 62) ≤ n ∧ n < 2 ^ 62 ∧ R (Itc (0 + (((n - 0).toNat : Nat) : Int) - 1) (-1) (n - 0).toNat) H1) : iRevR (tRg1 te) σ H R := h
theorem two_ints {a b c d : Int} (h1 : a = c) (h2 : b = d) : [V.int a, V.int b] = [V.int c, V.int d] := by rw [h1, h2]
/-! ### the law's own polynomials -/
def spGathered (T : List (Addr × Str)) : Sp := fun vs H Q _ => ∃ (a : Addr) (us : List V) (ts : List Tp) (A N : Nat), vs = [.ref a] ∧ H a = some (.lst us) ∧ Reps H (ts.map tpD) us ∧ LamX.Tabs T H ∧ FitT A N ts ∧ (∀ t ∈ ts, t.1.length ≤ 100000) ∧
  ∀ q ws H', Ey T H H' → H q = none → H' q = some (.lst ws) → Reps H' ((polyP ts).map tpD) ws → Q (.ref q) H'
def spProduct (T : List (Addr × Str)) : Sp := fun vs H Q _ => ∃ (a b : Addr) (us vs2 : List V) (ts ws : List Tp) (A N A1 N1 A2 N2 : Nat), vs = [.ref a, .ref b] ∧ H a = some (.lst us) ∧ Reps H (ts.map tpD) us ∧ H b = some (.lst vs2) ∧ Reps H (ws.map tpD) vs2 ∧ LamX.Tabs T H ∧ FitT A N (mulP ts ws) ∧ FitT A1 N1 ts ∧ FitT A2 N2 ws ∧ (∀ t ∈ ts, ∀ u ∈ ws, t.1.length = u.1.length) ∧ (∀ t ∈ mulP ts ws, t.1.length ≤ 100000) ∧
  ∀ q zs H', Ey T H H' → H q = none → H' q = some (.lst zs) → Reps H' ((polyP (mulP ts ws)).map tpD) zs → Q (.ref q) H'
def spExpsT (T : List (Addr × Str)) : Sp := fun vs H Q _ => ∃ n d : Nat, vs = [.int (n : Nat), .int (d : Nat)] ∧ n ≤ 4 ∧ d ≤ 4 ∧ LamX.Tabs T H ∧ ∀ q ws H', Ey T H H' → H q = none → H' q = some (.lst ws) → Reps H' ((expsTo n d).map expD) ws → Q (.ref q) H'
theorem Box.ey {T : List (Addr × Str)} {H H' : Hp} {p : Addr} (h : Box H p) (e : Ey T H H') : Box H' p := by
  obtain ⟨a, b, c, h⟩ := h
  exact ⟨a, b, c, e _ _ h⟩
/-- drawn terms -/
structure DrT (b k : Nat) (ts : List Tp) : Prop where
  len : ts.length ≤ 12
  each : ∀ t ∈ ts, (t.1.length = b ∧ (∀ x ∈ t.1, 0 ≤ x) ∧ t.1.sum ≤ (k : Nat)) ∧ LowF t.2 ∧ t.2.1.natAbs ≤ 10 ^ 30 ∧ t.2.2 ≤ 10 ^ 30
def denP : List Tp → Nat
  | [] => 1
  | t :: ts => t.2.2.natAbs * denP ts
theorem denP_dvd : ∀ {ts : List Tp} {t : Tp}, t ∈ ts → t.2.2.natAbs ∣ denP ts
  | u :: ts, t, h => by
    rcases List.mem_cons.mp h with rfl | h
    · exact Nat.dvd_mul_right _ _
    · exact Nat.dvd_trans (denP_dvd h) (Nat.dvd_mul_left _ _)
theorem denP_pos {ts : List Tp} (h : ∀ t ∈ ts, 0 < t.2.2) : 0 < denP ts := by
  induction ts with
  | nil => exact Nat.one_pos
  | cons t ts ih => exact Nat.mul_pos (by have := h t List.mem_cons_self; omega) (ih fun u hu => h u (List.mem_cons_of_mem _ hu))
theorem denP_le {ts : List Tp} (h : ∀ t ∈ ts, t.2.2.natAbs ≤ 2 ^ 100) : denP ts ≤ 2 ^ (100 * ts.length) := by
  induction ts with
  | nil => exact Nat.le_refl _
  | cons t ts ih =>
    rw [List.length_cons, Nat.mul_succ, Nat.pow_add, Nat.mul_comm (2 ^ (100 * ts.length))]
    show t.2.2.natAbs * denP ts ≤ _
    exact Nat.mul_le_mul (h t List.mem_cons_self) (ih fun u hu => h u (List.mem_cons_of_mem _ hu))
theorem DrT.pos {b k : Nat} {ts : List Tp} (h : DrT b k ts) : ∀ t ∈ ts, 0 < t.2.2 := fun t ht => (h.each t ht).2.1.1
theorem DrT.sz {b k : Nat} {ts : List Tp} (h : DrT b k ts) : (∀ t ∈ ts, Szf (10 ^ 30) (denP ts) t.2) ∧ 0 < denP ts ∧ denP ts ≤ 2 ^ 1200 := by
  refine ⟨fun t ht => ⟨h.pos t ht, denP_dvd ht, ?_⟩, denP_pos h.pos, ?_⟩
  · have h1 := (h.each t ht).2.2.1
    have h2 := h.pos t ht
    exact Nat.le_trans h1 (Nat.le_mul_of_pos_right _ (by omega))
  · refine Nat.le_trans (denP_le fun t ht => ?_) (Nat.pow_le_pow_right (by decide) ?_)
    · have h1 := (h.each t ht).2.2.2
      have h2 := h.pos t ht
      have h3 : (10 : Nat) ^ 30 ≤ 2 ^ 100 := by decide
      omega
    · have := h.len
      omega
theorem FxOk.dr {f : Fx} (h : FxOk f) : LowF f ∧ f.1.natAbs ≤ 10 ^ 30 ∧ f.2 ≤ 10 ^ 30 := by
  refine ⟨h.low, ?_, ?_⟩
  · have := h.2.2.1
    exact Nat.le_trans this (by decide)
  · have := h.2.2.2
    exact Int.le_trans this (by decide)
def spPolyDr (T : List (Addr × Str)) : Sp := fun vs H Q _ => ∃ (p : Addr) (b k : Nat), vs = [.ref p, .int (b : Nat), .int (k : Nat)] ∧ Box H p ∧ b ≤ 4 ∧ k ≤ 4 ∧ LamX.Tabs T H ∧
  ∀ (q : Addr) (us : List V) (ts : List Tp) (H' : Hp), DrT b k ts → H q = none → q ≠ p → H' q = some (.lst us) → Reps H' (ts.map tpD) us → By T p H H' → Box H' p → Q (.ref q) H'
def spLongDr : Sp := fun vs H Q _ => ∃ (p s : Addr) (b k : Nat) (es : List (List Int)) (ws : List V), vs = [.ref p, .ref s] ∧ Box H p ∧ H s = some (.lst ws) ∧ Reps H (es.map expD) ws ∧ 0 < es.length ∧ es.length ≤ 1000 ∧ (∀ e ∈ es, e.length = b ∧ (∀ x ∈ e, 0 ≤ x) ∧ e.sum ≤ (k : Nat)) ∧
  ∀ (q : Addr) (us : List V) (ts : List Tp) (H' : Hp), DrT b k ts → H q = none → q ≠ p → H' q = some (.lst us) → Reps H' (ts.map tpD) us → But p H H' → Box H' p → Q (.ref q) H'
theorem expsTo_pos : ∀ n ≤ 4, ∀ d ≤ 4, 0 < (expsTo n d).length := by decide +kernel
theorem lawE_len : ∀ n ≤ 4, ∀ d ≤ 4, (lawE d n).length ≤ 100 := by decide +kernel
theorem lawE_el : ∀ n ≤ 4, ∀ d ≤ 4, ∀ e ∈ lawE d n, e.length = n ∧ (∀ x ∈ e, 0 ≤ x) ∧ e.sum ≤ (d : Nat) := by decide +kernel
theorem keys_alikeE (es : List (List Int)) : PySem.W.AllAlike ((es.map keyE).map D.pd) := by
  intro d hd d' hd'
  rw [List.map_map] at hd hd'
  obtain ⟨t, _, rfl⟩ := List.mem_map.mp hd
  obtain ⟨t', _, rfl⟩ := List.mem_map.mp hd'
  exact key_alike _ _
theorem keys_sortableE (es : List (List Int)) : PySem.W.Sortable ((es.map keyE).map D.pd) := .inl fun d hd => by
  rw [List.map_map] at hd
  obtain ⟨t, _, rfl⟩ := List.mem_map.mp hd
  exact ⟨_, _, rfl⟩
end Bk
set_option Elab.async false
set_option linter.all false
set_option maxRecDepth 100000
set_option maxHeartbeats 4000000
/-! Bk144: the plain law of polynomials: what terms come to, exponents by exponents. -/
namespace Bk
open PySem PySem.Spec PyProof.Rows L2
/-! ### fractions as rational numbers -/
def toQ (f : Fx) : Rat := Rat.divInt f.1 f.2
theorem toQ_low {u l : Int} (h : 0 < l) : toQ (lowF u l) = Rat.divInt u l := by
  obtain ⟨h1, h2, h3, _⟩ := low_parts (u := u) h
  unfold toQ lowF
  rw [Rat.divInt_eq_divInt_iff (by omega) (by omega)]
  generalize ((Int.gcd u l : Nat) : Int) = g at h1 h2
  show fru u l * l = u * frl u l
  have e1 : fru u l * l = fru u l * (frl u l * g) := by rw [h2]
  have e2 : u * frl u l = fru u l * g * frl u l := by rw [h1]
  rw [e1, e2, Int.mul_assoc, Int.mul_comm g]
theorem lowF_lowQ {u l : Int} (h : 0 < l) : LowF (lowF u l) := by
  obtain ⟨_, _, h3, h4⟩ := low_parts (u := u) h
  exact ⟨h3, h4⟩
theorem toQ_add {f g : Fx} (hf : 0 < f.2) (hg : 0 < g.2) : toQ (addF f g) = toQ f + toQ g := by
  unfold addF
  rw [toQ_low (Int.mul_pos hf hg)]
  unfold toQ
  rw [Rat.divInt_add_divInt _ _ (by omega) (by omega)]
theorem addF_lowQ {f g : Fx} (hf : 0 < f.2) (hg : 0 < g.2) : LowF (addF f g)   := lowF_lowQ (Int.mul_pos hf hg)
theorem dvd_copr {a b c : Int} (z : b ∣ a * c) (h : Int.gcd a b = 1) : b ∣ c := by
  have z1 := Int.natAbs_dvd_natAbs.mpr z
  rw [Int.natAbs_mul] at z1
  have h1 : Nat.Coprime b.natAbs a.natAbs := by rw [Nat.coprime_comm]; exact h
  exact Int.natAbs_dvd_natAbs.mp (h1.dvd_of_dvd_mul_left z1)
theorem nodup_of {α β : Type} (f : α → β) : ∀ {l : List α}, (l.map f).Nodup → l.Nodup
  | [], _ => List.nodup_nil
  | x :: l, h => by
    rw [List.map_cons, List.nodup_cons] at h
    exact List.nodup_cons.mpr ⟨fun z => h.1 (List.mem_map.mpr ⟨x, z, rfl⟩), nodup_of f h.2⟩
theorem toQ_inj {f g : Fx} (hf : LowF f) (hg : LowF g) (h : toQ f = toQ g) : f = g := by
  obtain ⟨f1, f2⟩ := f
  obtain ⟨g1, g2⟩ := g
  obtain ⟨p1, c1⟩ := hf
  obtain ⟨p2, c2⟩ := hg
  dsimp only at p1 c1 p2 c2
  unfold toQ at h
  rw [Rat.divInt_eq_divInt_iff (by dsimp only; omega) (by dsimp only; omega)] at h
  dsimp only at h
  have d1 : f2 ∣ g2 := by
    have z : f2 ∣ f1 * g2 := ⟨g1, by rw [h, Int.mul_comm]⟩
    exact dvd_copr z c1
  have d2 : g2 ∣ f2 := by
    have z : g2 ∣ g1 * f2 := ⟨f1, by rw [← h, Int.mul_comm]⟩
    exact dvd_copr z c2
  have e : f2 = g2 := Int.dvd_antisymm (by omega) (by omega) d1 d2
  subst e
  rw [Int.eq_of_mul_eq_mul_right (by omega) h]
theorem toQ_zero {f : Fx} (hf : 0 < f.2) : toQ f = 0 ↔ f.1 = 0 := by
  unfold toQ
  constructor
  · intro h
    have z : Rat.divInt f.1 f.2 = Rat.divInt 0 1 := by rw [h]; rfl
    rw [Rat.divInt_eq_divInt_iff (by omega) (by omega)] at z
    simpa using z
  · intro h
    rw [h]
    exact Rat.zero_divInt _
theorem toQ01 : toQ (0, 1) = 0 := (toQ_zero (by decide)).2 rfl
theorem low01 : LowF (0, 1) := ⟨by decide, by decide⟩
/-! ### what stands at exponents -/
def coefQ : List Tp → List Int → Rat
  | [], _ => 0
  | t :: ts, e => (if t.1 = e then toQ t.2 else 0) + coefQ ts e
theorem coefQ_append (a b : List Tp) (e : List Int) : coefQ (a ++ b) e = coefQ a e + coefQ b e := by
  induction a with
  | nil => show coefQ b e = 0 + coefQ b e; rw [Rat.zero_add]
  | cons t a ih =>
    show (if t.1 = e then toQ t.2 else 0) + coefQ (a ++ b) e = ((if t.1 = e then toQ t.2 else 0) + coefQ a e) + coefQ b e
    rw [ih, Rat.add_assoc]
theorem coefQ_perm {a b : List Tp} (h : a.Perm b) (e : List Int) : coefQ a e = coefQ b e := by
  induction h with
  | nil => rfl
  | cons t _ ih => show _ + _ = _ + _; rw [ih]
  | swap t u l =>
    show _ + (_ + _) = _ + (_ + _)
    rw [← Rat.add_assoc, ← Rat.add_assoc, Rat.add_comm (if u.1 = e then toQ u.2 else 0)]
  | trans _ _ h1 h2 => rw [h1, h2]
theorem coefQ_none {l : List Tp} {e : List Int} (h : ∀ t ∈ l, t.1 ≠ e) : coefQ l e = 0 := by
  induction l with
  | nil => rfl
  | cons t l ih =>
    show (if t.1 = e then toQ t.2 else 0) + coefQ l e = 0
    rw [if_neg (h t List.mem_cons_self), ih fun u hu => h u (List.mem_cons_of_mem _ hu), Rat.zero_add]
abbrev Nodk (l : List Tp) : Prop := (l.map Prod.fst).Nodup
theorem coefQ_mem {l : List Tp} (hn : Nodk l) {t : Tp} (h : t ∈ l) : coefQ l t.1 = toQ t.2 := by
  induction l with
  | nil => simp at h
  | cons u l ih =>
    rw [Nodk, List.map_cons, List.nodup_cons] at hn
    show (if u.1 = t.1 then toQ u.2 else 0) + coefQ l t.1 = _
    rcases List.mem_cons.mp h with rfl | h
    · rw [if_pos rfl, coefQ_none fun v hv z => hn.1 (List.mem_map.mpr ⟨v, hv, z⟩), Rat.add_zero]
    · rw [if_neg fun z => hn.1 (List.mem_map.mpr ⟨t, h, z.symm⟩), Rat.zero_add]
      exact ih hn.2 h
theorem coefQ_get {l : List Tp} (hn : Nodk l) (e : List Int) : coefQ l e = toQ ((getP l e).getD (0, 1)) := by
  unfold getP
  cases c : l.find? fun t => decide (t.1 = e) with
  | none =>
    rw [coefQ_none fun t ht z => by
      have := List.find?_eq_none.mp c t ht
      simp [z] at this]
    exact toQ01.symm
  | some t =>
    have e1 := List.find?_some c
    simp only [decide_eq_true_eq] at e1
    rw [← e1]
    exact coefQ_mem hn (List.mem_of_find?_eq_some c)
theorem getP_low {l : List Tp} (h : ∀ t ∈ l, LowF t.2) (e : List Int) : LowF ((getP l e).getD (0, 1)) := by
  unfold getP
  cases c : l.find? fun t => decide (t.1 = e) with
  | none => exact low01
  | some t => exact h t (List.mem_of_find?_eq_some c)
theorem putP_nod {l : List Tp} (hn : Nodk l) (e : List Int) (f : Fx) : Nodk (putP l e f) := by
  unfold putP
  split
  · have z : (l.map fun t => if t.1 = e then (t.1, f) else t).map Prod.fst = l.map Prod.fst := by
      rw [List.map_map]
      refine List.map_congr_left fun t _ => ?_
      show (if t.1 = e then (t.1, f) else t).1 = t.1
      split <;> rfl
    rw [Nodk, z]
    exact hn
  · rename_i c
    rw [Nodk, List.map_append, List.nodup_append]
    refine ⟨hn, by simp, fun x hx y hy => ?_⟩
    rw [List.map_cons, List.map_nil, List.mem_singleton] at hy
    subst hy
    rintro rfl
    obtain ⟨t, ht, rfl⟩ := List.mem_map.mp hx
    exact c (List.any_eq_true.mpr ⟨t, ht, by simp⟩)
theorem getP_put (l : List Tp) (e : List Int) (f : Fx) : getP (putP l e f) e = some f := by
  unfold putP getP
  split
  · rename_i c
    induction l with
    | nil => simp at c
    | cons t l ih =>
      by_cases d : t.1 = e
      · rw [List.map_cons, if_pos d, List.find?_cons_of_pos (by simpa using d)]
        rfl
      · rw [List.map_cons, if_neg d, List.find?_cons_of_neg (by simpa using d)]
        exact ih (by simpa [d] using c)
  · rename_i c
    rw [List.find?_append]
    have z : (l.find? fun t => decide (t.1 = e)) = none := List.find?_eq_none.mpr fun t ht y => c (List.any_eq_true.mpr ⟨t, ht, y⟩)
    rw [z]
    simp
theorem getP_put_ne {l : List Tp} {e e' : List Int} {f : Fx} (h : e' ≠ e) : getP (putP l e f) e' = getP l e' := by
  unfold putP getP
  split
  · rename_i c
    clear c
    induction l with
    | nil => rfl
    | cons t l ih =>
      by_cases d : t.1 = e
      · rw [List.map_cons, if_pos d, List.find?_cons_of_neg (by simp [d]; exact fun z => h z.symm), List.find?_cons_of_neg (by simp [d]; exact fun z => h z.symm)]
        exact ih
      · rw [List.map_cons, if_neg d]
        by_cases d' : t.1 = e'
        · rw [List.find?_cons_of_pos (by simpa using d'), List.find?_cons_of_pos (by simpa using d')]
        · rw [List.find?_cons_of_neg (by simpa using d'), List.find?_cons_of_neg (by simpa using d')]
          exact ih
  · rw [List.find?_append]
    have z : ([(e, f)].find? fun t => decide (t.1 = e')) = none := by
      rw [List.find?_cons_of_neg (by simp; exact fun z => h z.symm)]
      rfl
    rw [z, Option.or_none]
theorem dictP_all {ts : List Tp} (h : ∀ t ∈ ts, LowF t.2) : Nodk (dictP ts) ∧ (∀ t ∈ dictP ts, LowF t.2) ∧ ∀ e, coefQ (dictP ts) e = coefQ ts e := by
  have key : ∀ (ts d : List Tp), (∀ t ∈ ts, LowF t.2) → Nodk d → (∀ t ∈ d, LowF t.2) → Nodk (ts.foldl stepP' d) ∧ (∀ t ∈ ts.foldl stepP' d, LowF t.2) ∧ ∀ e, coefQ (ts.foldl stepP' d) e = coefQ d e + coefQ ts e := by
    intro ts
    induction ts with
    | nil => intro d _ h1 h2; exact ⟨h1, h2, fun e => by show coefQ d e = coefQ d e + 0; rw [Rat.add_zero]⟩
    | cons t ts ih =>
      intro d ht h1 h2
      have lt := ht t List.mem_cons_self
      have lg := getP_low h2 t.1
      have n1 : Nodk (stepP' d t) := putP_nod h1 _ _
      have l1 : ∀ u ∈ stepP' d t, LowF u.2 := fun u hu => by
        rcases putP_mem hu with hu | rfl
        · exact h2 u hu
        · exact addF_lowQ lg.1 lt.1
      obtain ⟨a1, a2, a3⟩ := ih (stepP' d t) (fun u hu => ht u (List.mem_cons_of_mem _ hu)) n1 l1
      refine ⟨a1, a2, fun e => ?_⟩
      rw [List.foldl_cons, a3 e]
      show coefQ (stepP' d t) e + coefQ ts e = coefQ d e + ((if t.1 = e then toQ t.2 else 0) + coefQ ts e)
      rw [← Rat.add_assoc]
      congr 1
      rw [coefQ_get n1, coefQ_get h1]
      unfold stepP'
      by_cases c : t.1 = e
      · rw [if_pos c, ← c, getP_put]
        exact toQ_add lg.1 lt.1
      · rw [if_neg c, getP_put_ne (fun z => c z.symm), Rat.add_zero]
  obtain ⟨a1, a2, a3⟩ := key ts [] h (by simp [Nodk]) (fun t z => by simp at z)
  exact ⟨a1, a2, fun e => by rw [show dictP ts = ts.foldl stepP' [] from rfl, a3 e]; exact Rat.zero_add _⟩
theorem Nodk.sub {l m : List Tp} (h : Nodk m) (s : l.Sublist m) : Nodk l := List.Nodup.sublist (s.map Prod.fst) h
theorem Nodk.perm {l m : List Tp} (h : Nodk m) (p : l.Perm m) : Nodk l := (p.map Prod.fst).nodup_iff.mpr h
theorem Nodk.eq {l : List Tp} (h : Nodk l) {t u : Tp} (ht : t ∈ l) (hu : u ∈ l) (e : t.1 = u.1) (lt : LowF t.2) (lu : LowF u.2) : t = u := by
  have h1 := coefQ_mem h ht
  have h2 := coefQ_mem h hu
  rw [e, h2] at h1
  exact Prod.ext e (toQ_inj lt lu h1.symm)
theorem mem_polyP {ts : List Tp} {t : Tp} : t ∈ polyP ts ↔ t ∈ dictP ts ∧ t.2.1 ≠ 0 := by
  unfold polyP sortP nzP
  rw [(List.mergeSort_perm _ _).mem_iff, List.mem_filter]
  simp
theorem polyP_nod {ts : List Tp} (h : ∀ t ∈ ts, LowF t.2) : Nodk (polyP ts) := Nodk.perm (Nodk.sub (dictP_all h).1 List.filter_sublist) (List.mergeSort_perm _ _)
theorem polyP_low {ts : List Tp} (h : ∀ t ∈ ts, LowF t.2) : ∀ t ∈ polyP ts, LowF t.2 := fun t ht => (dictP_all h).2.1 t (mem_polyP.mp ht).1
theorem coefQ_nz : ∀ {l : List Tp} (e : List Int), (∀ t ∈ l, LowF t.2) → coefQ (nzP l) e = coefQ l e
  | [], _, _ => rfl
  | t :: l, e, h => by
    have ih := coefQ_nz e fun u hu => h u (List.mem_cons_of_mem _ hu)
    show _ = (if t.1 = e then toQ t.2 else 0) + coefQ l e
    unfold nzP at ih ⊢
    by_cases c : t.2.1 = 0
    · rw [List.filter_cons_of_neg (by simpa using c), ih, (toQ_zero (h t List.mem_cons_self).1).2 c]
      split <;> rw [Rat.zero_add]
    · rw [List.filter_cons_of_pos (by simpa using c)]
      show (if t.1 = e then toQ t.2 else 0) + coefQ (l.filter _) e = _
      rw [ih]
/-- what stands at exponents stays -/
theorem polyP_coef {ts : List Tp} (h : ∀ t ∈ ts, LowF t.2) (e : List Int) : coefQ (polyP ts) e = coefQ ts e := by
  obtain ⟨_, a2, a3⟩ := dictP_all h
  unfold polyP sortP
  rw [coefQ_perm (List.mergeSort_perm _ _), coefQ_nz e a2, a3]
theorem leP_anti {t u : Tp} (h1 : leP t u = true) (h2 : leP u t = true) : t.1 = u.1 := leE_anti h1 h2
/-- .. and tells the terms -/
theorem polyP_congr {a b : List Tp} (ha : ∀ t ∈ a, LowF t.2) (hb : ∀ t ∈ b, LowF t.2) (h : ∀ e, coefQ a e = coefQ b e) : polyP a = polyP b := by
  have mem : ∀ {a b : List Tp}, (∀ t ∈ a, LowF t.2) → (∀ t ∈ b, LowF t.2) → (∀ e, coefQ a e = coefQ b e) → ∀ t, t ∈ polyP a → t ∈ polyP b := by
    intro a b ha hb h t ht
    have l1 := polyP_low ha t ht
    have q1 : coefQ (polyP b) t.1 = toQ t.2 := by rw [polyP_coef hb, ← h, ← polyP_coef ha, coefQ_mem (polyP_nod ha) ht]
    have n0 : toQ t.2 ≠ 0 := fun z => (mem_polyP.mp ht).2 ((toQ_zero l1.1).1 z)
    cases c : getP (polyP b) t.1 with
    | none =>
      have z := coefQ_get (polyP_nod hb) t.1
      rw [c, q1] at z
      exact absurd (z.trans toQ01) n0
    | some g =>
      have z := coefQ_get (polyP_nod hb) t.1
      rw [c, q1] at z
      unfold getP at c
      cases d : (polyP b).find? fun u => decide (u.1 = t.1) with
      | none => rw [d] at c; cases c
      | some u =>
        rw [d] at c
        cases c
        have hu := List.mem_of_find?_eq_some d
        have e1 := List.find?_some d
        simp only [decide_eq_true_eq] at e1
        have e2 := toQ_inj l1 (polyP_low hb u hu) z
        have : t = u := Prod.ext e1.symm e2
        rw [this]
        exact hu
  have perm : (polyP a).Perm (polyP b) := by
    have n1 := polyP_nod ha
    have n2 := polyP_nod hb
    exact (List.perm_ext_iff_of_nodup (nodup_of _ n1) (nodup_of _ n2)).mpr fun t => ⟨mem ha hb h t, mem hb ha (fun e => (h e).symm) t⟩
  refine perm.eq_of_pairwise (le := fun t u => leP t u = true) (fun t u ht hu h1 h2 => ?_) (PySem.W.sort_pairwise leP_total _) (PySem.W.sort_pairwise leP_total _)
  have hu' := mem hb ha (fun e => (h e).symm) u hu
  exact (polyP_nod ha).eq ht hu' (leP_anti h1 h2) (polyP_low ha t ht) (polyP_low ha u hu')
theorem low_app {a b : List Tp} (ha : ∀ t ∈ a, LowF t.2) (hb : ∀ t ∈ b, LowF t.2) : ∀ t ∈ a ++ b, LowF t.2 := fun t ht => by
  rcases List.mem_append.mp ht with h | h
  · exact ha t h
  · exact hb t h
/-- the sum of two -/
theorem polyP_plus {a b : List Tp} (ha : ∀ t ∈ a, LowF t.2) (hb : ∀ t ∈ b, LowF t.2) : polyP (polyP a ++ polyP b) = polyP (a ++ b) :=
  polyP_congr (low_app (polyP_low ha) (polyP_low hb)) (low_app ha hb) fun e => by rw [coefQ_append, coefQ_append, polyP_coef ha, polyP_coef hb]
/-! ### contracts of the law -/
theorem tp_size (t : Tp) (h : t.1.length ≤ 100) : (tpD t).size ≤ 110 := by
  show 1 + ((1 + D.sizes (t.1.map D.int)) + ((1 + (1 + (1 + 0))) + 0)) ≤ 110
  have : D.sizes (t.1.map D.int) = t.1.length := by
    clear h
    induction t.1 with
    | nil => rfl
    | cons x l ih => show 1 + D.sizes (l.map D.int) = l.length + 1; omega
  omega
theorem tps_size {ts : List Tp} (h : ∀ t ∈ ts, t.1.length ≤ 100) (hl : ts.length ≤ 3000) : (D.lst (ts.map tpD)).size ≤ 400000 := by
  have key : ∀ l : List Tp, (∀ t ∈ l, t.1.length ≤ 100) → D.sizes (l.map tpD) ≤ 110 * l.length := by
    intro l
    induction l with
    | nil => intro _; exact Nat.le_refl _
    | cons t l ih =>
      intro h
      have h1 := tp_size t (h t List.mem_cons_self)
      have h2 := ih fun u hu => h u (List.mem_cons_of_mem _ hu)
      show (tpD t).size + D.sizes (l.map tpD) ≤ 110 * (l.length + 1)
      omega
  have := key ts h
  show 1 + D.sizes (ts.map tpD) ≤ _
  omega
theorem Rep.lst {H : Hp} {ts : List Tp} {a : Addr} {vs : List V} (ha : H a = some (.lst vs)) (h : Reps H (ts.map tpD) vs) : Rep H (.lst (ts.map tpD)) (.ref a) := ⟨a, vs, rfl, ha, h⟩
def spLawIs (C : Addr) : Sp := fun vs H Q _ => ∃ (p l : Addr) (n : Int) (ts : List Tp) (us : List V), vs = [.ref p, .int n, .ref l] ∧ PolyAt C H p n ts ∧ H l = some (.lst us) ∧ Reps H (ts.map tpD) us ∧ ts.length ≤ 3000 ∧ (∀ t ∈ ts, t.1.length ≤ 100) ∧ ∀ H', Ex H H' → Q (.bl true) H'
def negF (f : Fx) : Fx := (0 - f.1, f.2)
/-- the terms in another order, one with its contrary .. -/
def contrP (ts : List Tp) (i k : Nat) : List Tp := match ts[i]? with
  | some t => ((ts ++ [(t.1, negF t.2), t, (t.1, (0, 1))]).drop k) ++ ((ts ++ [(t.1, negF t.2), t, (t.1, (0, 1))]).take k)
  | none => []
theorem negF_low {f : Fx} (h : LowF f) : LowF (negF f) := ⟨h.1, by
  show Int.gcd (0 - f.1) f.2 = 1
  rw [Int.zero_sub, Int.neg_gcd]
  exact h.2⟩
theorem toQ_neg {f : Fx} (h : LowF f) : toQ (negF f) + toQ f = 0 := by
  unfold toQ negF
  rw [Rat.divInt_add_divInt _ _ (by have := h.1; show f.2 ≠ 0; omega) (by have := h.1; omega)]
  have z : (0 - f.1) * f.2 + f.1 * f.2 = 0 := by rw [← Int.add_mul, Int.sub_add_cancel, Int.zero_mul]
  show Rat.divInt ((0 - f.1) * f.2 + f.1 * f.2) _ = 0
  rw [z]
  exact Rat.zero_divInt _
theorem contr_ok {ts : List Tp} (h : ∀ t ∈ ts, LowF t.2) {i k : Nat} (hi : i < ts.length) : (∀ t ∈ contrP ts i k, LowF t.2) ∧ polyP (contrP ts i k) = polyP ts := by
  obtain ⟨t, ht⟩ : ∃ t, ts[i]? = some t := ⟨_, List.getElem?_eq_getElem hi⟩
  have lt := h t (List.mem_of_getElem? ht)
  have e : contrP ts i k = ((ts ++ [(t.1, negF t.2), t, (t.1, (0, 1))]).drop k) ++ ((ts ++ [(t.1, negF t.2), t, (t.1, (0, 1))]).take k) := by unfold contrP; rw [ht]
  have lo : ∀ u ∈ ts ++ [(t.1, negF t.2), t, (t.1, (0, 1))], LowF u.2 := low_app h fun u hu => by
    simp only [List.mem_cons, List.not_mem_nil, or_false] at hu
    rcases hu with rfl | rfl | rfl
    · exact negF_low lt
    · exact lt
    · exact low01
  have pm : (contrP ts i k).Perm (ts ++ [(t.1, negF t.2), t, (t.1, (0, 1))]) := by
    rw [e]
    refine List.perm_append_comm.trans ?_
    rw [List.take_append_drop]
  have lc : ∀ u ∈ contrP ts i k, LowF u.2 := fun u hu => lo u (pm.mem_iff.mp hu)
  refine ⟨lc, polyP_congr lc h fun e' => ?_⟩
  rw [coefQ_perm pm, coefQ_append]
  have z : coefQ [(t.1, negF t.2), t, (t.1, (0, 1))] e' = 0 := by
    show (if t.1 = e' then toQ (negF t.2) else 0) + ((if t.1 = e' then toQ t.2 else 0) + ((if t.1 = e' then toQ (0, 1) else 0) + 0)) = 0
    by_cases c : t.1 = e'
    · rw [if_pos c, if_pos c, if_pos c, toQ01, Rat.add_zero, Rat.add_zero]
      exact toQ_neg lt
    · rw [if_neg c, if_neg c, if_neg c, Rat.add_zero, Rat.add_zero, Rat.add_zero]
  rw [z, Rat.add_zero]
def spContr : Sp := fun vs H Q _ => ∃ (p l : Addr) (us : List V) (ts : List Tp) (b k : Nat), vs = [.ref p, .ref l] ∧ Box H p ∧ H l = some (.lst us) ∧ Reps H (ts.map tpD) us ∧ DrT b k ts ∧
  ∀ (q : Addr) (ws : List V) (rs : List Tp) (H' : Hp), But p H H' → Box H' p → H' q = some (.lst ws) → Reps H' (rs.map tpD) ws → (rs = [] ∧ ts = [] ∨ ∃ i k, i < ts.length ∧ rs = contrP ts i k) → Q (.ref q) H'
end Bk
namespace Bk
open PySem L2
theorem nw_o {H : Hp} {p : Addr} (o : HO) (h : H p = none) : ∃ H', L2.upd H p o = H' ∧ Ex H H' ∧ H' p = some o := ⟨_, rfl, Ex.new h, upd_same⟩
theorem cutV_dt (xs : List V) {k : Int} (h0 : 0 ≤ k) (h : k ≤ xs.length) : cutV xs (some k) none = xs.drop k.toNat ∧ cutV xs none (some k) = xs.take k.toNat := by
  obtain ⟨n, rfl⟩ : ∃ n : Nat, k = n := ⟨k.toNat, by omega⟩
  unfold cutV
  rw [HT.sIx_nat, HT.sIx_nat, HT.sIx_none, HT.sIx_none]
  have e : min n xs.length = n := by omega
  rw [e]
  refine ⟨?_, ?_⟩
  · rw [List.take_of_length_le (by rw [List.length_drop]; omega)]
    rfl
  · rw [List.drop_zero]
    rfl
theorem Reps.dropN {H : Hp} : ∀ {ds : List D} {vs : List V} (k : Nat), Reps H ds vs → Reps H (ds.drop k) (vs.drop k)
  | ds, vs, 0, h => h
  | [], vs, k + 1, h => by
    have : vs = [] := by simpa only [Reps] using h
    subst this
    exact h
  | d :: ds, vs, k + 1, h => by
    obtain ⟨v, ws, rfl, _, h2⟩ := h
    exact Reps.dropN (ds := ds) (vs := ws) k h2
/-- Equal and unequal. -/
def spEquals (T : List (Addr × Str)) (C : Addr) : Sp := fun vs H Q _ => ∃ (p l r : Addr) (us : List V) (ts : List Tp) (n k : Nat), vs = [.ref p, .int (n : Nat), .ref l, .ref r] ∧ Box H p ∧ LamX.Tabs T H ∧ H l = some (.lst us) ∧ Reps H (ts.map tpD) us ∧ DrT n k ts ∧ n ≤ 4 ∧ PolyAt C H r n (polyP ts) ∧
  ∀ H', By T p H H' → Box H' p → Q (.bl true) H'
/-- one more -/
def moreP (n : Nat) (ts : List Tp) : List Tp := ts ++ [(List.replicate n 0, (1, 7))]
theorem low17 : LowF (1, 7) := ⟨by decide, by decide⟩
theorem more_ne {n : Nat} {ts : List Tp} (h : ∀ t ∈ ts, LowF t.2) : polyP (moreP n ts) ≠ polyP ts := fun z => by
  have l1 : ∀ t ∈ moreP n ts, LowF t.2 := low_app h fun t ht => by
    simp only [List.mem_cons, List.not_mem_nil, or_false] at ht
    subst ht
    exact low17
  have c1 := polyP_coef l1 (List.replicate n 0)
  have c2 := polyP_coef h (List.replicate n 0)
  rw [z, c2] at c1
  unfold moreP at c1
  rw [coefQ_append] at c1
  have s : coefQ [(List.replicate n (0 : Int), ((1, 7) : Fx))] (List.replicate n 0) = toQ (1, 7) := by
    show (if List.replicate n (0 : Int) = List.replicate n 0 then toQ (1, 7) else 0) + 0 = _
    rw [if_pos rfl, Rat.add_zero]
  rw [s] at c1
  have z0 : toQ (1, 7) = 0 := by
    have := congrArg (fun q => -(coefQ ts (List.replicate n 0)) + q) c1
    simp only [← Rat.add_assoc, Rat.neg_add_cancel, Rat.zero_add] at this
    exact this.symm
  exact absurd ((toQ_zero low17.1).1 z0) (by decide)
theorem DrT.fit {n k : Nat} {ts : List Tp} (h : DrT n k ts) : FitT (10 ^ 30) (denP ts) ts := ⟨h.sz.1, h.sz.2.1, Nat.lt_of_le_of_lt h.sz.2.2 (Nat.pow_lt_pow_right (by decide) (by decide)),
  Nat.lt_of_le_of_lt (Nat.mul_le_mul_right _ (show ts.length + 2 ≤ 2 ^ 10 by have := h.len; omega)) (Nat.lt_of_le_of_lt (show 2 ^ 10 * 10 ^ 30 ≤ 2 ^ 200 by decide) (Nat.pow_lt_pow_right (by decide) (by decide))), by have := h.len; omega⟩
theorem fit_of {A N : Nat} {us : List Tp} (h : ∀ t ∈ us, Szf A N t.2) (n0 : 0 < N) (hN : N < 2 ^ 1300) (hA : A ≤ 2 ^ 200) (hl : us.length ≤ 1000) : FitT A N us := ⟨h, n0, Nat.lt_trans hN (Nat.pow_lt_pow_right (by decide) (by decide)),
  Nat.lt_of_le_of_lt (Nat.mul_le_mul (show us.length + 2 ≤ 2 ^ 10 by omega) hA) (by rw [← Nat.pow_add]; exact Nat.pow_lt_pow_right (by decide) (by decide)), by omega⟩
theorem contr_mem {ts : List Tp} {i k : Nat} (hi : i < ts.length) : ∃ t ∈ ts, ∀ u ∈ contrP ts i k, u ∈ ts ∨ u = (t.1, negF t.2) ∨ u = (t.1, (0, 1)) := by
  obtain ⟨t, ht⟩ : ∃ t, ts[i]? = some t := ⟨_, List.getElem?_eq_getElem hi⟩
  have mt := List.mem_of_getElem? ht
  refine ⟨t, mt, fun u hu => ?_⟩
  unfold contrP at hu
  rw [ht] at hu
  have hu' : u ∈ ts ++ [(t.1, negF t.2), t, (t.1, (0, 1))] := by
    rcases List.mem_append.mp hu with z | z
    · exact List.mem_of_mem_drop z
    · exact List.mem_of_mem_take z
  simp only [List.mem_append, List.mem_cons, List.not_mem_nil, or_false] at hu'
  rcases hu' with z | rfl | rfl | rfl
  · exact .inl z
  · exact .inr (.inl rfl)
  · exact .inl mt
  · exact .inr (.inr rfl)
theorem contr_len {ts : List Tp} {i k : Nat} : (contrP ts i k).length ≤ 2 * (ts.length + 3) := by
  unfold contrP
  split
  · rw [List.length_append, List.length_drop, List.length_take, List.length_append]
    have e : ∀ a b c : Tp, [a, b, c].length = 3 := fun _ _ _ => rfl
    rw [e]
    omega
  · exact Nat.zero_le _
theorem contr_fit {n b : Nat} {ts : List Tp} (h : DrT n b ts) {i k : Nat} (hi : i < ts.length) : FitT (10 ^ 30) (denP ts) (contrP ts i k) ∧ ∀ t ∈ contrP ts i k, t.1.length = n := by
  obtain ⟨t, mt, hm⟩ := contr_mem (k := k) hi
  refine ⟨fit_of (fun u hu => ?_) h.sz.2.1 (Nat.lt_of_le_of_lt h.sz.2.2 (Nat.pow_lt_pow_right (by decide) (by decide))) (by decide) (by have := @contr_len ts i k; have := h.len; omega), fun u hu => ?_⟩
  · rcases hm u hu with z | rfl | rfl
    · exact h.sz.1 u z
    · obtain ⟨s1, s2, s3⟩ := h.sz.1 t mt
      exact ⟨s1, s2, by show (0 - t.2.1).natAbs ≤ _; rw [Int.zero_sub, Int.natAbs_neg]; exact s3⟩
    · exact szf0
  · rcases hm u hu with z | rfl | rfl
    · exact (h.each u z).1.1
    · exact (h.each t mt).1.1
    · exact (h.each t mt).1.1
theorem more_fit {n b : Nat} {ts : List Tp} (h : DrT n b ts) : FitT (10 ^ 30) (denP ts * 7) (moreP n ts) ∧ ∀ t ∈ moreP n ts, t.1.length = n := by
  refine ⟨fit_of (fun u hu => ?_) (Nat.mul_pos h.sz.2.1 (by decide)) (Nat.lt_of_le_of_lt (Nat.mul_le_mul h.sz.2.2 (show 7 ≤ 2 ^ 3 by decide)) (by rw [← Nat.pow_add]; exact Nat.pow_lt_pow_right (by decide) (by decide))) (by decide) (by unfold moreP; rw [List.length_append]; show _ + 1 ≤ _; have := h.len; omega), fun u hu => ?_⟩
  · rcases List.mem_append.mp hu with z | z
    · obtain ⟨s1, s2, s3⟩ := h.sz.1 u z
      exact ⟨s1, Nat.dvd_trans s2 (Nat.dvd_mul_right _ _), s3⟩
    · simp only [List.mem_cons, List.not_mem_nil, or_false] at z
      subst z
      exact ⟨(by decide : (0 : Int) < 7), Nat.dvd_mul_left _ _, (by decide : (1 : Int).natAbs ≤ 10 ^ 30 * (7 : Int).natAbs)⟩
  · rcases List.mem_append.mp hu with z | z
    · exact (h.each u z).1.1
    · simp only [List.mem_cons, List.not_mem_nil, or_false] at z
      subst z
      exact List.length_replicate
theorem g_polyA {T : List (Addr × Str)} {C : Addr} {H1 : Hp} {x : V} {n : Int} {ts : List Tp} {A N : Nat} {P : Hp → Prop} {E : XK} {vs : List V} (ev : vs = [.int n, x]) (hT : LamX.Tabs T H1) (hx : TermsAt H1 x ts) (fit : FitT A N ts) (hl : ∀ t ∈ ts, t.1.length ≤ 100000)
    {a dx : Addr} (ha : H1 a = none) (hdx : H1 dx = none) (hne : dx ≠ a) (h : ∀ H', Ey T H1 H' → PolyAt C H' a n (polyP ts) → P H') :
    spPolyInit T C (.ref a :: vs) (L2.upd (L2.upd H1 dx (.own a)) a (.ins C dx [])) (fun v H2 => v = .non ∧ P H2) E := by
  subst ev
  have e1 : Ex H1 (L2.upd (L2.upd H1 dx (.own a)) a (.ins C dx [])) := (Ex.new hdx).trans (Ex.new (by rw [upd_ne hne.symm]; exact ha))
  exact ⟨a, dx, n, x, ts, A, N, rfl, upd_same, e1.ey.tabs hT, hx.ey (T := T) e1.ey, fit, hl, fun H' b pa _ => ⟨rfl, h H' (e1.ey.of_by b ha) pa⟩⟩
theorem g_polyB {T : List (Addr × Str)} {C : Addr} {H1 : Hp} {x : V} {n : Int} {ts : List Tp} {A N : Nat} {P : Hp → Prop} {E : XK} {vs : List V} (ev : vs = [.int n, x]) (hT : LamX.Tabs T H1) (hx : TermsAt H1 x ts) (fit : FitT A N ts) (hl : ∀ t ∈ ts, t.1.length ≤ 100000)
    {a dx : Addr} (ha : H1 a = none) (hdx : H1 dx = none) (hne : dx ≠ a) (h : ∀ H', Ey T H1 H' → PolyAt C H' a n (polyP ts) → (∀ F, H1 F ≠ none → NotKept H' a F) → P H') :
    spPolyInit T C (.ref a :: vs) (L2.upd (L2.upd H1 dx (.own a)) a (.ins C dx [])) (fun v H2 => v = .non ∧ P H2) E := by
  subst ev
  have e1 : Ex H1 (L2.upd (L2.upd H1 dx (.own a)) a (.ins C dx [])) := (Ex.new hdx).trans (Ex.new (by rw [upd_ne hne.symm]; exact ha))
  exact ⟨a, dx, n, x, ts, A, N, rfl, upd_same, e1.ey.tabs hT, hx.ey (T := T) e1.ey, fit, hl, fun H' b pa nk => ⟨rfl, h H' (e1.ey.of_by b ha) pa fun F hF => nk F fun z => hF (e1.free z)⟩⟩
/-- a list that is not the kept one is changed -/
theorem PolyAt.clr {C : Addr} {H : Hp} {p F : Addr} {n : Int} {ts : List Tp} {xs : List V} {o : HO} (h : PolyAt C H p n ts) (nk : NotKept H p F) (hF : H F = some (.lst xs)) : PolyAt C (L2.upd H F o) p n ts := by
  obtain ⟨dx, l, vs, h1, h2, h3⟩ := h
  have nF : p ≠ F := ne_of h1 hF (fun z => nomatch z)
  exact ⟨dx, l, vs, (upd_ne nF).trans h1, (upd_ne (nk _ _ _ _ h1)).trans h2, h3.tk ((But.refl F H).upd.tkl hF) (tps_hard ts)⟩
theorem NotKept.ey {T : List (Addr × Str)} {C : Addr} {H H' : Hp} {p F : Addr} {n : Int} {ts : List Tp} (h : NotKept H p F) (pa : PolyAt C H p n ts) (e : Ey T H H') : NotKept H' p F := fun C' dx' n' l' z => by
  obtain ⟨dx, l, vs, h1, h2, h3⟩ := pa
  have z2 := e _ _ h1
  rw [z2] at z
  cases z
  exact h _ _ _ _ h1
theorem g_makeN {C : Addr} {n m : Nat} {sp : Sp} {gV : List V → List V → List V} {E : XK} {t tk : TA} {σ : St} {H : Hp} {Q : VK} (h : t σ H fun vs H1 => tk σ H1 fun zs H2 => vs.length = n ∧ zs.length = m ∧
  ∀ x dx, H2 x = none → H2 dx = none → dx ≠ x → sp (gV (.ref x :: vs) zs) (L2.upd (L2.upd H2 dx (.own x)) x (.ins C dx [])) (fun v H3 => v = .non ∧ Q (.ref x) H3) E) : tMakeN C n m sp gV E t tk σ H Q := h
theorem rep0 (n : Nat) : (List.replicate n [V.int 0]).flatten = (List.replicate n (0 : Int)).map V.int := by
  induction n with
  | zero => rfl
  | succ n ih =>
    rw [List.replicate_succ, List.flatten_cons, ih, List.replicate_succ]
    rfl
theorem fit13 : FitT 1 3 [(([] : List Int), ((1, 3) : Fx))] := fit_of (fun t ht => by
  simp only [List.mem_cons, List.not_mem_nil, or_false] at ht
  subst ht
  exact ⟨(by decide : (0 : Int) < 3), (by decide : (3 : Int).natAbs ∣ 3), (by decide : (1 : Int).natAbs ≤ 1 * (3 : Int).natAbs)⟩) (by decide) (Nat.lt_of_lt_of_le (show 3 < 2 ^ 2 by decide) (Nat.pow_le_pow_right (by decide) (by decide))) Nat.one_le_two_pow (by show 1 ≤ 1000; decide)
theorem g_eqPP {C : Addr} {H : Hp} {p q : Addr} {n m : Int} {ts us : List Tp} {Q : VK} {E : XK} (h1 : PolyAt C H p n ts) (h2 : PolyAt C H q m us) (h : ∀ H', Ex H H' → Q (.bl (decide (n = m ∧ ts = us))) H') : rEqM C (spPoEq C) E (.ref p) (.ref q) H Q := by
  obtain ⟨dx, l, vs, a1, a2, a3⟩ := id h1
  obtain ⟨dx2, l2, vs2, b1, b2, b3⟩ := id h2
  exact ⟨p, dx, _, rfl, a1, .ins b1, p, n, ts, _, rfl, h1, .inl ⟨q, m, us, rfl, h2, fun H' e => ⟨_, rfl, h H' e⟩⟩⟩
theorem g_eqPT {C : Addr} {H : Hp} {p a : Addr} {n : Int} {ts : List Tp} {xs : List V} {Q : VK} {E : XK} (h1 : PolyAt C H p n ts) (h2 : H a = some (.tup xs)) (h : ∀ H', Ex H H' → Q (.bl false) H') : rEqM C (spPoEq C) E (.ref p) (.ref a) H Q := by
  obtain ⟨dx, l, vs, a1, a2, a3⟩ := id h1
  exact ⟨p, dx, _, rfl, a1, .tup h2, p, n, ts, _, rfl, h1, .inr ⟨⟨a, xs, rfl, .inr h2⟩, fun H' e => ⟨_, rfl, h H' e⟩⟩⟩
def wideP (ts : List Tp) : List Tp := ts.map fun t => (t.1 ++ [0], t.2)
theorem wide_fit {n b : Nat} {ts : List Tp} (h : DrT n b ts) : FitT (10 ^ 30) (denP ts) (wideP ts) ∧ ∀ t ∈ wideP ts, t.1.length = n + 1 := by
  refine ⟨fit_of (fun u hu => ?_) h.sz.2.1 (Nat.lt_of_le_of_lt h.sz.2.2 (Nat.pow_lt_pow_right (by decide) (by decide))) (by decide) (by unfold wideP; rw [List.length_map]; have := h.len; omega), fun u hu => ?_⟩
  · obtain ⟨t, ht, rfl⟩ := List.mem_map.mp hu
    exact h.sz.1 t ht
  · obtain ⟨t, ht, rfl⟩ := List.mem_map.mp hu
    show (t.1 ++ [0]).length = n + 1
    rw [List.length_append, (h.each t ht).1.1]
    rfl
end Bk
set_option Elab.async false
set_option linter.all false
set_option maxRecDepth 100000
set_option maxHeartbeats 4000000
/-! Bk146: a promise for a call where no repr is under way (FnG; was Bk135), calls of such a def, its end with tables of code objects too; repr of data with ints of up to 32 figures -/
namespace Bk
open PySem PySem.Spec PyProof.Rows L2
structure FnG (P : Program) (w : World) (K : PySem.W.Frag) (mg : Str → Option Value) (base : Heap) (CX : CXT) (k : Nat) (f : Addr) (fd : FuncData) (ps : List Str) (sp : Sp) : Prop where
  len : ∀ vs H Q E, sp vs H Q E → vs.length = ps.length
  run : ∀ (A : Around) (outer : List Env) (s : Shared) (H : Hp) (args : Args) (us : List Value) (vs : List V) (Q : VK) (E : XK), Room k A → A.guards = some [] → Env0 P w K mg base A outer s H → BindsTo s fd args (ps.zip us) → Vals vs us → sp vs H Q E →
    codeAny (model P w) A (.call (.ref f) args) (CR CX outer P w H s Q E) s
theorem fun_okG {P : Program} {w : World} {K : PySem.W.Frag} {mg : Str → Option Value} {base : Heap} {CX : CXT} {x qual : Str} {st : Stmt} {f : Addr} {fd : FuncData} {N ps : List Str} {k : Nat} {sp : Sp} (F : Fun K x qual st f fd) (S : FnScope N ps (defScope st)) (len : ∀ vs H Q E, sp vs H Q E → vs.length = ps.length)
    (hbody : ∀ (cdv : Value) (A : Around) (outer : List Env) (s : Shared) (H : Hp) (vs : List V) (Q : VK) (E : XK), Room k (A.deeper (envOfC qual (defScope st) s.heap.objs.size f cdv)) → A.guards = some [] → sp vs H Q E →
      ∃ t, PSs (cxOf CX P w K mg base N qual (defScope st) f cdv A outer s H E) (defBody st) t ∧ t { nx := fun _ H' => Q .non H', rt := Q } (start N vs) H) : FnG P w K mg base CX (k + 1) f fd ps sp := by
  obtain ⟨oc, od, kV, doc, pm, an, cdv, ct, osl, rfl, lk, hcd⟩ := F.ex
  refine ⟨len, fun A outer s H args us vs Q E hr hgd e0 hb rv hsp => ?_⟩
  have KX : K.In s.heap := e0.mod.kin.keeps fun b o e => (e0.bs b o e).1
  have lim : s.heap.NoLimit := e0.mod.nolimit.keeps fun b o e => (e0.bs b o e).1
  refine codeAny_call_function hr.depth (KX _ _ lk) rfl S.co S.gen rfl (PySem.W.codeRec_of KX hcd) (hb _ _ _ _ ?_)
  refine wpAny_newFunctionEnv_cells S.kind (fun y hy => ?_) fun env he s1 new => ?_
  · obtain ⟨n, v⟩ := y
    rcases S.par n (List.of_mem_zip hy).1 with q | q
    · exact .inl q
    · exact .inr ⟨q, PySem.W.cellsFrom_some _ _ _ (.inl q)⟩
  · subst he
    refine ⟨lim.keeps new.toInCall.keep, codeAny_func ?_⟩
    obtain ⟨t, ht, hq⟩ := hbody cdv A outer s H vs Q E (hr.deeper _) hgd hsp
    refine wpAny_mono (ht.run [] s1 (start N vs) H _ (inv_start S hr.hd e0 (len _ _ _ _ hsp) rv new) hq) (fun fl s' hs => ?_) fun e s' hs => hs
    cases fl with
    | ret u =>
      obtain ⟨v, σ', H', J, rv', q⟩ := hs
      exact ⟨v, H', J.os, J.bare, J.base, J.hok, rv', q⟩
    | next =>
      obtain ⟨σ', H', J, q⟩ := hs
      exact ⟨.non, H', J.os, J.bare, J.base, J.hok, rfl, q⟩
    | brk => exact False.elim hs.choose_spec.choose_spec.2
    | cont => exact False.elim hs.choose_spec.choose_spec.2
/-! ### the end: the script as the only box, the promise asked at the caller -/
/-- nothing but the script is told of; where the module knows it itself, nothing at all -/
theorem script_heap {P : Program} {w : World} {K : PySem.W.Frag} {a : Addr} {s₁ : Shared} {vs : List Value} {ns : List Int} (KX : K.In s₁.heap)
    (ha : s₁.heap.get? a = some { cls := .type "list", data := .seq vs.toArray }) (hi : IntsAre vs ns) (hl : ns.length ≤ sizeLine) :
    ∃ H : Hp, Only H ∧ SqL K H a (ns.map V.int) ∧ HOk P w H s₁.heap ∧ ∀ b, H b ≠ none → b = a ∧ K.lookup a = none := by
  have rv : Vals (ns.map V.int) vs := vals_ints hi
  have lv : vs.length = ns.length := hi.length
  cases hk : K.lookup a with
  | some o =>
    have e := KX a o hk
    rw [ha] at e
    cases e
    exact ⟨fun _ => none, fun _ => .inl rfl, .inr ⟨_, vs.toArray, _, hk, rfl, rfl, rfl, by rw [List.size_toArray, lv]; exact hl, by simpa using rv⟩, fun b u z => (nomatch z), fun b z => absurd rfl z⟩
  | none =>
    refine ⟨upd (fun _ => none) a (.frz { cls := .type "list", data := .seq vs.toArray } (.lst (ns.map V.int))), fun b => ?_, .inl (.inr ⟨_, upd_same⟩), fun b u z => ?_, fun b z => ?_⟩
    · rcases Decidable.em (b = a) with rfl | c
      · exact .inr ⟨_, _, upd_same⟩
      · exact .inl (upd_ne c)
    · rcases Decidable.em (b = a) with rfl | c
      · rw [upd_same] at z
        cases z
        exact ⟨ha, by rw [List.length_map]; exact hl, vs, _, rv, ha⟩
      · rw [upd_ne c] at z
        cases z
    · rcases Decidable.em (b = a) with rfl | c
      · exact ⟨rfl, rfl⟩
      · exact absurd (upd_ne c) z
/-! ### calls of such a def -/
section
variable {X : Cx}
theorem run_fnG {CX : CXT} {k : Nat} {f : Addr} {fd : FuncData} {ps : List Str} {sp : Sp} {ds : List Value} {dvs : List V} {E : XK} {pins : List (Addr × Obj)} {σ : L2.St} {H : Hp} {s : Shared} {Q : VK} {us : List Value} {vs : List V}
    (F : FnG X.prog X.w X.K X.mg X.base CX k f fd ps sp) (hr : Room k X.A) (hgd : X.A.guards = some []) (hb : Binds X.K fd ps ds) (hd : Vals dvs ds) (hx : PassesAt CX X σ E) (I : Inv X pins σ H s) (r : Vals vs us) (h : sp (vs ++ dvs) H Q E) :
    wpAny (model X.prog X.w) X.A (call (.ref f) us) (EP X pins σ Q) X.xe s := by
  have r2 : Vals (vs ++ dvs) (us ++ ds) := r.append hd
  have hl : (us ++ ds).length = ps.length := by rw [← r2.length]; exact F.len _ _ _ _ h
  refine wpAny_call (codeAny_mono (F.run X.A X.stack s H ⟨us, []⟩ (us ++ ds) (vs ++ dvs) Q E hr hgd I.env0 (hb s us I.kIn hl) r2 h) fun r s' hq => ?_)
  cases r with
  | error e => exact hx pins H s e s' I hq
  | ok fl =>
    cases fl with
    | ret u => exact I.after hq
    | next => exact False.elim hq
    | brk => exact False.elim hq
    | cont => exact False.elim hq
variable {CX : CXT} {k : Nat} {f : Addr} {fd : FuncData} {ps : List Str} {sp : Sp} {ds : List Value} {dvs : List V} {E : L2.St → XK} {x : Str} {p pos : Pos} {e : Expr} {es : List Expr} {t : TA}
theorem pe_callG (F : FnG X.prog X.w X.K X.mg X.base CX k f fd ps sp) (hr : Room k X.A) (hgd : X.A.guards = some []) (hg : Gl X x) (hm : X.mg x = some (.ref f)) (hk : PySem.W.keepIn X.K (.ref f) = true) (hb : Binds X.K fd ps ds) (hd : Vals dvs ds) (hx : ∀ σ, PassesAt CX X σ (E σ))
    (ha : PA X (e :: es) t) (hdb : (x == ("__debug__" : Str)) = false := by decide) (he : starEach (e :: es) X.env = (false, eval e X.env) :: starEach es X.env := by rfl) (hpl : (backTo pos (starEach es X.env)).any (·.1) = false := by rfl) :
    PE X (.Call (.Name x p) (e :: es) [] pos) (uCall sp dvs E t) := by
  refine ⟨fun pins s σ H Q I h => ?_⟩
  refine wpAny_Call_Name_kw (ld_glob I hg hm ?_ hdb)
  refine PySem.W.callWith_K (h₀ := X.base) I.ok.mod.kin hk (thn (ha.run pos pins s σ H _ I h) fun us s1 z => ?_) he hpl
  obtain ⟨vs, H1, I1, r, q⟩ := z
  exact ⟨I1.kIn, run_fnG F hr hgd hb hd (hx σ) I1 r q⟩
end
/-! ### the end with tables of code objects: they stand over the heap that tells of the script -/
def cover (TT : List Addr) (H0 : Hp) : Hp := fun b => if b ∈ TT then some (.tbl #[]) else H0 b
theorem cover_on {TT : List Addr} {H0 : Hp} {b : Addr} (h : b ∈ TT) : cover TT H0 b = some (.tbl #[]) := if_pos h
theorem cover_off {TT : List Addr} {H0 : Hp} {b : Addr} (h : b ∉ TT) : cover TT H0 b = H0 b := if_neg h
def tabObj : Obj := { cls := .none, data := .fields #[] }
/-- no list, no empty table -/
def FarO (o : Obj) : Prop := (∀ xs n, o.data ≠ .seq xs n) ∧ o.data ≠ .fields #[]
theorem cover_ok {P : Program} {w : World} {h : Heap} {TT : List Addr} {H0 : Hp} (hO : Only H0) (hok : HOk P w H0 h) (hT : ∀ b ∈ TT, h.get? b = some tabObj) : HOk P w (cover TT H0) h := fun b u z => by
  by_cases hb : b ∈ TT
  · rw [cover_on hb] at z
    cases z
    exact hT b hb
  · rw [cover_off hb] at z
    rcases hO b with q | ⟨o, xs, q⟩
    · rw [q] at z
      cases z
    · rw [q] at z
      cases z
      exact hok b _ q
/-- what the end knows of the heap -/
structure Under (h : Heap) (TT : List Addr) (H0 : Hp) (a : Addr) (vs : List Value) : Prop where
  scr : h.get? a = some { cls := .type "list", data := .seq vs.toArray }
  only : ∀ b, H0 b ≠ none → b = a
  tab : ∀ b ∈ TT, h.get? b = some tabObj
theorem Under.off {h : Heap} {TT : List Addr} {H0 : Hp} {a b : Addr} {vs : List Value} {o : Obj} (U : Under h TT H0 a vs) (e : h.get? b = some o) (f : FarO o) : cover TT H0 b = none := by
  have n1 : b ∉ TT := fun z => by
    have q := U.tab b z
    rw [e] at q
    cases q
    exact f.2 rfl
  rw [cover_off n1]
  by_cases c : H0 b = none
  · exact c
  · have z := U.only b c
    subst z
    have q := U.scr
    rw [e] at q
    cases q
    exact (f.1 _ _ rfl).elim
theorem Under.get {h : Heap} {TT : List Addr} {H0 : Hp} {a b : Addr} {vs : List Value} {o : Obj} (U : Under h TT H0 a vs) (e : h.get? b = some o) (f : FarO o) : (hidT h (cover TT H0)).get? b = some o := hidT_get e (U.off e f)
theorem Under.ns {h : Heap} {TT : List Addr} {H0 : Hp} {a b : Addr} {vs : List Value} {m : Str → Option Value} (U : Under h TT H0 a vs) (n : h.Ns b m) : (hidT h (cover TT H0)).Ns b m := by
  obtain ⟨o, es, ep, e, d, r⟩ := n
  refine ⟨o, es, ep, U.get e ⟨fun xs n z => ?_, fun z => ?_⟩, d, r⟩ <;> (rw [d] at z; cases z)
theorem Under.free {h : Heap} {TT : List Addr} {H0 : Hp} {a : Addr} {vs : List Value} (U : Under h TT H0 a vs) : a ∉ TT := fun z => by
  have q := U.tab a z
  rw [U.scr] at q
  have z' : Data.seq vs.toArray _ = Data.fields #[] := congrArg Obj.data (Option.some.inj q)
  cases z'
theorem Under.kin {K : PySem.W.Frag} {h : Heap} {TT : List Addr} {H0 : Hp} {a : Addr} {vs : List Value} (U : Under h TT H0 a vs) (KX : K.In h) (kA : ∀ b, H0 b ≠ none → K.lookup a = none) (kT : ∀ b ∈ TT, K.lookup b = none) : K.In (hidT h (cover TT H0)) := fun b o e => hidT_get (KX b o e) (by
  have n1 : b ∉ TT := fun z => by
    rw [kT b z] at e
    cases e
  rw [cover_off n1]
  by_cases c : H0 b = none
  · exact c
  · have z := U.only b c
    subst z
    rw [kA b c] at e
    cases e)
theorem Under.tabB {h : Heap} {mg : Str → Option Value} {TT : List Addr} {H0 : Hp} {a c P : Addr} {vs : List Value} (U : Under h TT H0 a vs) (C : PySem.W.CodeHd h c P) (hP : P ∈ TT) (hns : h.Ns mainGlobals mg)
    (hbm : ∃ (bm : Addr) (ob : Obj), mg "__builtins__" = some (.ref bm) ∧ bm ≠ builtinsNs ∧ h.get? bm = some ob ∧ ob.cls = .type "module" ∧ ob.dict = some builtinsNs ∧ ob.data = .plain) : LamX.TabB (hidT h (cover TT H0)) mg c P := by
  have tP := U.tab P hP
  have gP : mainGlobals ≠ P := fun z => by
    obtain ⟨o, es, ep, e, d, _⟩ := hns
    rw [z, tP] at e
    cases e
    cases d
  obtain ⟨o, us, file, tf, flags, tg, inF, text, tt, e1, r1, r2, r3, r4⟩ := C
  obtain ⟨bm, ob, b1, b2, b3, b4, b5, b6⟩ := hbm
  have fo : FarO o := ⟨fun xs n z => (by rw [r2] at z; cases z), fun z => by
    rw [r2] at z
    cases z
    simp at r3⟩
  have fb : FarO ob := ⟨fun xs n z => (by rw [b6] at z; cases z), fun z => (by rw [b6] at z; cases z)⟩
  refine ⟨⟨o, us, file, tf, flags, tg, inF, text, tt, U.get e1 fo, r1, r2, r3, r4⟩, ⟨bm, ob, b1, b2, fun z => ?_, fun z => ?_, U.get b3 fb, b4, b5, b6⟩, gP⟩
  · obtain ⟨o, es, ep, e, d, _⟩ := hns
    rw [z, e] at b3
    cases b3
    rw [d] at b6
    cases b6
  · rw [z, tP] at b3
    cases b3
    cases b6
/-- what stood stands, tables may have grown -/
theorem Under.kept {P : Program} {w : World} {h h' : Heap} {cs : List (Addr × Addr)} {H0 H' : Hp} {a : Addr} {vs : List Value} (U : Under h (cs.map (·.2)) H0 a vs) (C : ∀ p ∈ cs, PySem.W.CodeHd h p.1 p.2) (hO : Only H0) (hok : HOk P w (cover (cs.map (·.2)) H0) h) (hok' : HOk P w H' h') (un : Un (frs []) [] (cover (cs.map (·.2)) H0) H' h h') : OldK h h' := by
  have on : ∀ p ∈ cs, p.2 ∈ cs.map (·.2) := fun p hp => List.mem_map.mpr ⟨p, hp, rfl⟩
  have grown : ∀ b ∈ cs.map (·.2), ∃ p ∈ cs, p.2 = b ∧ ∃ more : Array Value, h'.get? b = some { cls := .none, data := .fields more } := fun b hb => by
    obtain ⟨p, hp, ep⟩ := List.mem_map.mp hb
    obtain ⟨more, z⟩ := un.tbls b #[] (cover_on hb)
    exact ⟨p, hp, ep, _, hok' b _ z⟩
  have same : ∀ b o, b ∉ cs.map (·.2) → h.get? b = some o → h'.get? b = some o := fun b o nb e => by
    rcases hO b with q | ⟨ob, xs, q⟩
    · exact un.keep b o e ((cover_off nb).trans q) (fun z => nomatch (show b ∈ ([] : List Addr) from z)) (by simp)
    · have q' := (cover_off nb).trans q
      have e1 := (hok b _ q').1
      rw [e] at e1
      cases e1
      exact (hok' b _ (un.frzs b _ _ q')).1
  refine ⟨fun b o e => ?_, fun b o e => ?_⟩
  · by_cases hb : b ∈ cs.map (·.2)
    · obtain ⟨p, hp, rfl, more, hm⟩ := grown b hb
      have tp := U.tab _ hb
      rw [tp] at e
      cases e
      exact .inr (.inl ⟨((C p hp).tab tp).isCodeTable, rfl, #[], more, rfl, by rw [Array.empty_append]; exact hm⟩)
    · exact .inl (same b o hb e)
  · by_cases hb : b ∈ cs.map (·.2)
    · obtain ⟨p, hp, rfl, more, hm⟩ := grown b hb
      exact ⟨_, hm⟩
    · exact ⟨o, same b o hb e⟩
def LawAtG (l : PySem.W.OpenLaw) (w : World) (K : PySem.W.Frag) (CX : CXT) (k n : Nat) (x : Str) (mg : Str → Option Value) (fa : Addr) (h : Heap) : Prop :=
  ∃ (fd : FuncData) (cs : List (Addr × Addr)) (sp : Sp), (∀ p ∈ cs, h.get? p.2 = some tabObj) ∧ (∀ p ∈ cs, K.lookup p.2 = none) ∧ (∀ p ∈ cs, PySem.W.CodeHd h p.1 p.2) ∧ (∀ (s : Shared) (u : Value), BindsTo s fd ⟨[u], []⟩ [(x, u)]) ∧
    (∀ (H : Hp) (a : Addr) (ns : List Int), ns.length ≤ n → (∀ p ∈ cs, H p.2 = some (.tbl #[])) → SqL K H a (ns.map V.int) → sp [.ref a] H (fun v _ => v = .bl true) fun _ _ _ => False) ∧
    ∀ base : Heap, K.In base → base.Ns mainGlobals mg → (∀ p ∈ cs, LamX.TabB base mg p.1 p.2) → FnG l.prog w K mg base CX k fa fd [x] sp
theorem walk_ofGT {l : PySem.W.OpenLaw} {n k : Nat} {q : Program} {loose : List Str} {XP : (Str → Option Value) → Heap → Prop} {YP : World → Heap → Prop} {d : DefRec} {K : Params → PySem.W.Frag} {CX : World → CXT} {x : Str}
    (hn : l.most = some n) (hn2 : n ≤ sizeLine) (hdf : d.params.defaults = []) (hr : Room k callerA) (hY : ∀ (w : World) (h : Heap), YP w h → (K w.params).In h)
    (F : ∀ (w : World) (mg : Str → Option Value) (fa : Addr) (h : Heap), YP w h → (K w.params).In h → h.Ns mainGlobals mg → mg d.name = some (.ref fa) → LawAtG l w (K w.params) (CX w) k n x mg fa h)
    (hCX : ∀ (w : World) (H : Hp) (s : Shared) (e : Value) (s' : Shared), CX w [] H s (fun _ _ _ => False) e s' → False) :
    PySem.W.WalkO q loose XP YP l.row.toRowW d [] (fun f vs => PySem.call f vs) := by
  refine Att.attach_call hn hdf fun w s₀ s₁ mg mb fa o pm cd doc a vs ns G Y _ _ _ hmg hobj hints hlen hg => ?_
  have KX := hY w _ Y
  obtain ⟨fd, cs, sp, hT, nT, C, hb, hsp, hF⟩ := F w mg fa _ Y KX G.T.g hmg
  obtain ⟨H0, hO, hS0, hok0, hA⟩ := script_heap (P := l.prog) (w := w) KX hobj hints (Nat.le_trans hlen hn2)
  have mem : ∀ {f : Addr → Prop}, (∀ p ∈ cs, f p.2) → ∀ b ∈ cs.map (·.2), f b := fun {f} z b hb => by
    obtain ⟨p, hp, rfl⟩ := List.mem_map.mp hb
    exact z p hp
  have U : Under s₁.heap (cs.map (·.2)) H0 a vs := ⟨hobj, fun b z => (hA b z).1, mem hT⟩
  have hok := cover_ok (P := l.prog) (w := w) hO hok0 U.tab
  have kin := U.kin KX (fun b z => (hA b z).2) (mem nT)
  have hns := U.ns G.T.g
  have hS : SqL (K w.params) (cover (cs.map (·.2)) H0) a (ns.map V.int) := Ex.seqL (H := H0) (fun b u z => by
    have e := U.only b (by rw [z]; simp)
    subst e
    rw [cover_off U.free]
    exact z) hS0
  have e0 : Env0 l.prog w (K w.params) mg (hidT s₁.heap (cover (cs.map (·.2)) H0)) callerA [] s₁ (cover (cs.map (·.2)) H0) := by
    obtain ⟨mc, l1, l2⟩ := G.T.nolimit
    exact ⟨rfl, ⟨kin, hns, ⟨mb, U.ns G.T.b, G.T.builtins⟩, ⟨mc, U.ns l1, l2⟩⟩, fun b o e => of_hidT e, Nat.le_of_eq (hidT_size _ _), trivial, fun b hb => (nomatch (show b ∈ ([] : List Addr) from hb)), hok, .of_eq hg⟩
  refine codeAny_mono ((hF _ kin hns fun p hp => U.tabB (C p hp) (List.mem_map.mpr ⟨p, hp, rfl⟩) G.T.g G.T.bmain).run callerA [] s₁ _ ⟨[.ref a], []⟩ [.ref a] [.ref a] _ _ hr rfl e0 (hb s₁ (.ref a)) (.cons rfl .nil) (hsp _ a ns hlen (fun p hp => cover_on (List.mem_map.mpr ⟨p, hp, rfl⟩)) hS)) fun r s' h => ?_
  match r, h with
  | .error e, h => exact (hCX w _ s₁ e s' h).elim
  | .ok .next, h => exact False.elim h
  | .ok .brk, h => exact False.elim h
  | .ok .cont, h => exact False.elim h
  | .ok (.ret u), h =>
    obtain ⟨v, H', os, bare, un, hok', rv, qv⟩ := h
    cases (show v = V.bl true from qv)
    cases (show u = Value.bool true from rv)
    exact ⟨rfl, U.kept C hO hok hok' un, os, bare⟩
/-! ### repr of wider data -/
theorem int_shown {i : Int} (h : i.natAbs < 10 ^ 32) : (PyData.shown (.int i)).length ≤ 34 := by
  have e := int_text_length_le10 (k := 32) (by decide) h
  show (Str.ofString (toString i)).length ≤ 34
  rw [PySem.ofString_length]
  exact Nat.le_succ_of_le e
mutual
def D.Lw : D → Prop
  | .non => True | .bl _ => True | .int i => i.natAbs < 10 ^ 32
  | .str s => s.length ≤ 100 ∧ ∀ c ∈ s.cps.toList, c < 0x110000
  | .tup ds => D.Lws ds
  | .lst ds => D.Lws ds
def D.Lws : List D → Prop
  | [] => True
  | d :: ds => d.Lw ∧ D.Lws ds
end
theorem D.lws_of : ∀ {ds : List D}, (∀ d ∈ ds, d.Lw) → D.Lws ds
  | [], _ => trivial
  | d :: ds, h => ⟨h d List.mem_cons_self, D.lws_of fun e he => h e (List.mem_cons_of_mem _ he)⟩
mutual
theorem D.lw_show : ∀ d : D, d.Lw → d.pd.showable = true ∧ d.pd.hasDict = false ∧ d.pd.leavesShort 34 = true ∧ d.pd.weight + 1 ≤ 110 * d.size
  | .non, _ => ⟨rfl, rfl, rfl, by show 0 + 1 ≤ 110 * 1; decide⟩
  | .bl b, _ => ⟨rfl, rfl, rfl, by show 0 + 1 ≤ 110 * 1; decide⟩
  | .int i, h => by
    have h' : i.natAbs < 10 ^ 32 := h
    have hl : i.natAbs.log2 < 108 := by
      by_cases z : i.natAbs = 0
      · rw [z]; decide
      · exact (Nat.log2_lt z).2 (Nat.lt_of_lt_of_le h' (by decide))
    refine ⟨decide_eq_true (Nat.lt_trans hl (by decide)), rfl, decide_eq_true (int_shown h'), ?_⟩
    show (if i == 0 then 0 else i.natAbs.log2 + 1) + 1 ≤ 110 * 1
    split <;> omega
  | .str s, h => by
    obtain ⟨h1, h2⟩ := (show s.length ≤ 100 ∧ ∀ c ∈ s.cps.toList, c < 0x110000 from h)
    refine ⟨rfl, rfl, ?_, ?_⟩
    · show s.cps.toList.all (fun c => decide (c < 16 ^ 8)) = true
      exact List.all_eq_true.2 fun c hc => decide_eq_true (Nat.lt_trans (h2 c hc) (by decide))
    · have e : s.cps.size = s.length := rfl
      show s.cps.size + 1 ≤ 110 * 1
      omega
  | .tup ds, h => by
    obtain ⟨a, b, c, d⟩ := D.lws_show ds h
    refine ⟨a, b, c, ?_⟩
    show PyData.weightAll (D.pds ds) + 1 ≤ 110 * (1 + D.sizes ds)
    omega
  | .lst ds, h => by
    obtain ⟨a, b, c, d⟩ := D.lws_show ds h
    refine ⟨a, b, c, ?_⟩
    show PyData.weightAll (D.pds ds) + 1 ≤ 110 * (1 + D.sizes ds)
    omega
theorem D.lws_show : ∀ ds : List D, D.Lws ds → PyData.showableAll (D.pds ds) = true ∧ PyData.hasDictAll (D.pds ds) = false ∧ PyData.leavesShortAll 34 (D.pds ds) = true ∧ PyData.weightAll (D.pds ds) ≤ 110 * D.sizes ds
  | [], _ => ⟨rfl, rfl, rfl, Nat.zero_le _⟩
  | d :: ds, h => by
    obtain ⟨a, b, c, e⟩ := D.lw_show d h.1
    obtain ⟨a2, b2, c2, e2⟩ := D.lws_show ds h.2
    refine ⟨?_, ?_, ?_, ?_⟩
    · show (PyData.showable d.pd && PyData.showableAll (D.pds ds)) = true
      rw [a, a2]; rfl
    · show (PyData.hasDict d.pd || PyData.hasDictAll (D.pds ds)) = false
      rw [b, b2]; rfl
    · show (PyData.leavesShort 34 d.pd && PyData.leavesShortAll 34 (D.pds ds)) = true
      rw [c, c2]; rfl
    · show PyData.weight d.pd + 1 + PyData.weightAll (D.pds ds) ≤ 110 * (d.size + D.sizes ds)
      omega
end
def uReprW : List V → Hp → VK → Prop := fun xs H Q => ∃ (a : Addr) (d : D), xs = [.ref a] ∧ Rep H d (.ref a) ∧ d.Lw ∧ d.size ≤ 3000 ∧ d.dep ≤ 60 ∧ Q (.str d.pd.shown) H
theorem uk_reprW {X : Cx} (hu : X.A.units + 64 < cLine) (hg : X.A.guards = some []) : CallR X (.builtin "repr") uReprW := by
  intro pins s σ H xs us Q I r h
  obtain ⟨a, d, rfl, rd, lf, sz, dp, q⟩ := h
  rw [Vals.ref1 r]
  obtain ⟨as, rr⟩ := Dp.reads I d.pd (.ref a) (.ref a) (Rep.dp rd) rfl
  obtain ⟨h1, h2, h3, h4⟩ := D.lw_show d lf
  have hz : d.pd.shown.length ≤ sizeLine := by
    have z := PyData.shown_le 34 (by decide) d.pd h3
    have e : sizeLine = 16777216 := by decide
    rw [e]
    omega
  refine repr_of_reads' rr h1 (fun z => by rw [h2] at z; cases z) hg (by rw [D.pd_dep]; omega) (fun _ _ e => e) (fun h' u tk hk => ?_) hz
  exact ⟨.str _, H, I.kept hk, ⟨_, rfl⟩, q⟩
end Bk
set_option Elab.async false
set_option linter.all false
set_option maxRecDepth 100000
/-! Bk147: contracts and sizes of k03's two last defs -/
namespace Bk
open PySem L2
def spRight03 (T : List (Addr × Str)) (C : Addr) : Sp := fun vs H Q _ => ∃ (p l m : Addr) (us vs2 : List V) (ts ws : List Tp) (n k k2 : Nat), vs = [.ref p, .int (n : Nat), .ref l, .ref m] ∧ Box H p ∧ LamX.Tabs T H ∧ H l = some (.lst us) ∧ Reps H (ts.map tpD) us ∧ H m = some (.lst vs2) ∧ Reps H (ws.map tpD) vs2 ∧ DrT n k ts ∧ DrT n k2 ws ∧ n ≤ 4 ∧ k ≤ 4 ∧ k2 ≤ 4 ∧
  ∀ H', By T p H H' → Box H' p → Q (.bl true) H'
/-! ### sizes -/
theorem pw0 : 1 < 2 ^ 5500 := Nat.lt_of_lt_of_le (show 1 < 2 ^ 1 by decide) (Nat.pow_le_pow_right (by decide) (by decide))
theorem polyP_len (ts : List Tp) : (polyP ts).length ≤ ts.length := by
  unfold polyP sortP
  rw [(List.mergeSort_perm _ _).length_eq]
  exact Nat.le_trans (List.length_filter_le _ _) (dictP_len ts)
theorem polyP_key {ts : List Tp} {t : Tp} (h : t ∈ polyP ts) : ∃ u ∈ ts, u.1 = t.1 := dictP_keys t (mem_polyP.mp h).1
theorem polyP_sz {A N : Nat} {ts : List Tp} (h : ∀ t ∈ ts, Szf A N t.2) : ∀ t ∈ polyP ts, Szf (ts.length * A) N t.2 := fun t ht => dictP_sz h t (mem_polyP.mp ht).1
theorem polyP_nil : polyP [] = [] := List.eq_nil_of_length_eq_zero (Nat.le_zero.mp (polyP_len []))
theorem fit0 : FitT 1 1 [] := ⟨fun t z => by simp at z, by decide, pw0, Nat.lt_of_le_of_lt (show (0 + 2) * 1 ≤ 2 ^ 2 by decide) (Nat.pow_lt_pow_right (by decide) (by decide)), Nat.zero_le _⟩
/-- what is due: gathered terms -/
structure DueT (n k A N : Nat) (ds : List Tp) : Prop where
  len : ds.length ≤ 12
  each : ∀ t ∈ ds, (t.1.length = n ∧ (∀ x ∈ t.1, 0 ≤ x) ∧ t.1.sum ≤ (k : Nat)) ∧ LowF t.2 ∧ Szf A N t.2
theorem DrT.due {n k : Nat} {ts : List Tp} (h : DrT n k ts) : DueT n k (12 * 10 ^ 30) (denP ts) (polyP ts) := ⟨Nat.le_trans (polyP_len ts) h.len, fun t ht => by
  obtain ⟨u, hu, e⟩ := polyP_key ht
  refine ⟨by rw [← e]; exact (h.each u hu).1, polyP_low (fun t ht => (h.each t ht).2.1) t ht, (polyP_sz h.sz.1 t ht).mono (Nat.mul_le_mul_right _ h.len) (Nat.dvd_refl _)⟩⟩
theorem pw {a b m : Nat} (h : a ≤ 2 ^ b) (hb : b < m) : a < 2 ^ m := Nat.lt_of_le_of_lt h (Nat.pow_lt_pow_right (by decide) hb)
theorem fit_big {A N : Nat} {us : List Tp} (h : ∀ t ∈ us, Szf A N t.2) (n0 : 0 < N) (hN : N ≤ 2 ^ 2700) (hA : A ≤ 2 ^ 300) (hl : us.length ≤ 1000) : FitT A N us := ⟨h, n0, pw hN (by decide),
  Nat.lt_of_le_of_lt (Nat.mul_le_mul (show us.length + 2 ≤ 2 ^ 10 by omega) hA) (by rw [← Nat.pow_add]; exact Nat.pow_lt_pow_right (by decide) (by decide)), by omega⟩
theorem two_pow {a b m n : Nat} (h1 : a ≤ 2 ^ m) (h2 : b ≤ 2 ^ n) : a * b ≤ 2 ^ (m + n) := by
  rw [Nat.pow_add]
  exact Nat.mul_le_mul h1 h2
theorem pow_le2 {m n : Nat} (h : m ≤ n) : 2 ^ m ≤ 2 ^ n := Nat.pow_le_pow_right (by decide) h
theorem a30 : 12 * 10 ^ 30 ≤ 2 ^ 104 := by decide +kernel
theorem lcm_le : lcmA ≤ 2 ^ 136 := by decide +kernel
theorem one_fit {A N : Nat} {n k : Nat} {ds : List Tp} (h : DueT n k A N ds) (n0 : 0 < N) (hN : N ≤ 2 ^ 1200) (hA : A ≤ 2 ^ 104) : FitT A N ds := fit_big (fun t ht => (h.each t ht).2.2) n0 (Nat.le_trans hN (pow_le2 (by decide))) (Nat.le_trans hA (pow_le2 (by decide))) (by have := h.len; omega)
theorem app_fit {A N M : Nat} {xs ys : List Tp} (hx : ∀ t ∈ xs, Szf A N t.2) (hy : ∀ t ∈ ys, Szf A M t.2) (n0 : 0 < N) (m0 : 0 < M) (hN : N ≤ 2 ^ 1200) (hM : M ≤ 2 ^ 1200) (hA : A ≤ 2 ^ 104) (lx : xs.length ≤ 12) (ly : ys.length ≤ 12) : FitT A (N * M) (xs ++ ys) :=
  fit_big (fun t ht => by
    rcases List.mem_append.mp ht with z | z
    · exact (hx t z).mono (Nat.le_refl _) (Nat.dvd_mul_right _ _)
    · exact (hy t z).mono (Nat.le_refl _) (Nat.dvd_mul_left _ _)) (Nat.mul_pos n0 m0) (Nat.le_trans (two_pow hN hM) (pow_le2 (by decide))) (Nat.le_trans hA (pow_le2 (by decide))) (by rw [List.length_append]; omega)
theorem mulP_len {xs ys : List Tp} (lx : xs.length ≤ 12) (ly : ys.length ≤ 12) : (mulP xs ys).length ≤ 144 := by
  have key : ∀ l : List Tp, (mulP l ys).length = l.length * ys.length := by
    intro l
    induction l with
    | nil => simp [mulP]
    | cons t l ih =>
      have e : mulP (t :: l) ys = (ys.map fun u => (t.1.zipWith (· + ·) u.1, mulF t.2 u.2)) ++ mulP l ys := by unfold mulP; rw [List.map_cons, List.flatten_cons]
      rw [e, List.length_append, List.length_map, ih, List.length_cons, Nat.add_mul]
      omega
  rw [key]
  exact Nat.mul_le_mul lx ly
theorem mulP_mem {xs ys : List Tp} {t : Tp} (h : t ∈ mulP xs ys) : ∃ a ∈ xs, ∃ b ∈ ys, t = (a.1.zipWith (· + ·) b.1, mulF a.2 b.2) := by
  unfold mulP at h
  obtain ⟨l, hl, ht⟩ := List.mem_flatten.mp h
  obtain ⟨a, ha, rfl⟩ := List.mem_map.mp hl
  obtain ⟨b, hb, rfl⟩ := List.mem_map.mp ht
  exact ⟨a, ha, b, hb, rfl⟩
theorem mul_fit {A N M n k k2 : Nat} {xs ys : List Tp} (hx : DueT n k A N xs) (hy : DueT n k2 A M ys) (n0 : 0 < N) (m0 : 0 < M) (hN : N ≤ 2 ^ 1200) (hM : M ≤ 2 ^ 1200) (hA : A ≤ 2 ^ 104) : FitT (A * A) (N * M) (mulP xs ys) ∧ ∀ t ∈ mulP xs ys, t.1.length = n := by
  refine ⟨fit_big (fun t ht => ?_) (Nat.mul_pos n0 m0) (Nat.le_trans (two_pow hN hM) (pow_le2 (by decide))) (Nat.le_trans (two_pow hA hA) (pow_le2 (by decide))) (by have := mulP_len hx.len hy.len; omega), fun t ht => ?_⟩
  · obtain ⟨a, ha, b, hb, rfl⟩ := mulP_mem ht
    exact (hx.each a ha).2.2.mul (hy.each b hb).2.2
  · obtain ⟨a, ha, b, hb, rfl⟩ := mulP_mem ht
    show (a.1.zipWith (· + ·) b.1).length = n
    rw [List.length_zipWith, (hx.each a ha).1.1, (hy.each b hb).1.1]
    omega
theorem scale_fit {A N n k : Nat} {xs : List Tp} {f : Fx} (hx : DueT n k A N xs) (n0 : 0 < N) (hN : N ≤ 2 ^ 1200) (hA : A ≤ 2 ^ 104) (hf : FxOk f) : FitT (A * 1000) (N * lcmA) (scaleP xs f) := by
  refine fit_big (fun t ht => ?_) (Nat.mul_pos n0 one_le_lcm) (Nat.le_trans (two_pow hN lcm_le) (pow_le2 (by decide))) (Nat.le_trans (two_pow hA (show 1000 ≤ 2 ^ 10 by decide)) (pow_le2 (by decide))) (by unfold scaleP; rw [List.length_map]; have := hx.len; omega)
  obtain ⟨u, hu, rfl⟩ := List.mem_map.mp ht
  exact (hx.each u hu).2.2.mul hf.sz
theorem worth_fit {A N n k : Nat} {xs : List Tp} {fs : List Fx} (hx : DueT n k A N xs) (n0 : 0 < N) (hN : N ≤ 2 ^ 1200) (hA : A ≤ 2 ^ 104) (hk : k ≤ 4) (hn : n ≤ 4) (lf : fs.length = n) (hf : ∀ f ∈ fs, FxOk f) : WFit A N 1000 lcmA 4 xs fs := by
  have m4 : lcmA ^ 4 ≤ 2 ^ 544 := by decide +kernel
  have b4 : 1000 ^ 4 ≤ 2 ^ 40 := by decide +kernel
  refine ⟨fun t ht => ?_, fun f h => (hf f h).sz, by decide, one_le_lcm, n0, pw (two_pow hN m4) (by decide), pw (two_pow (show xs.length + 2 ≤ 2 ^ 10 by have := hx.len; omega) (two_pow hA b4)) (by decide), pw b4 (by decide), by omega, by have := hx.len; omega⟩
  obtain ⟨⟨h1, h2, h3⟩, _, h5⟩ := hx.each t ht
  exact ⟨h5, by omega, h2, by omega⟩
theorem fxs_of {H : Hp} : ∀ {acc : List V}, (∀ (j : Nat) (v : V), acc[j]? = some v → ∃ f, FxOk f ∧ Rep H (fxD f) v) → ∃ fs : List Fx, fs.length = acc.length ∧ (∀ f ∈ fs, FxOk f) ∧ Reps H (fs.map fxD) acc
  | [], _ => ⟨[], rfl, fun f z => by simp at z, rfl⟩
  | v :: acc, h => by
    obtain ⟨f, h1, h2⟩ := h 0 v rfl
    obtain ⟨fs, l, ok, r⟩ := fxs_of (acc := acc) fun j w hj => h (j + 1) w hj
    refine ⟨f :: fs, congrArg Nat.succ l, fun g hg => ?_, v, acc, rfl, h2, r⟩
    rcases List.mem_cons.mp hg with rfl | hg
    · exact h1
    · exact ok g hg
theorem DueT.bits {A N n k : Nat} {xs : List Tp} (hx : DueT n k A N xs) (n0 : 0 < N) (hN : N ≤ 2 ^ 1200) (hA : A ≤ 2 ^ 104) : ∀ t ∈ xs, 0 < t.2.2 ∧ Bits 6500 t.2.1 ∧ Bits 5500 t.2.2 := fun t ht => by
  obtain ⟨b1, b2⟩ := (hx.each t ht).2.2.bits (pw hN (show 1200 < 1201 by decide)) (pw hA (show 104 < 105 by decide)) n0
  exact ⟨(hx.each t ht).2.2.pos, b2.le, b1.le⟩
theorem FxOk.bits {f : Fx} (h : FxOk f) : 0 < f.2 ∧ Bits 6500 f.1 ∧ Bits 5500 f.2 := by
  obtain ⟨b1, b2⟩ := h.sz.bits (pw lcm_le (show 136 < 137 by decide)) (pw (show 1000 ≤ 2 ^ 10 by decide) (show 10 < 11 by decide)) one_le_lcm
  exact ⟨h.sz.pos, b2.le, b1.le⟩
theorem exps_size {n d : Nat} (hn : n ≤ 4) (hd : d ≤ 4) : (D.lst ((expsTo n d).map expD)).size ≤ 400000 := by
  have one : ∀ l : List Int, D.sizes (l.map D.int) = l.length := by
    intro l
    induction l with
    | nil => rfl
    | cons x l ih => show 1 + D.sizes (l.map D.int) = l.length + 1; omega
  have key : ∀ l : List (List Int), (∀ e ∈ l, e.length = n) → D.sizes (l.map expD) ≤ 10 * l.length := by
    intro l
    induction l with
    | nil => intro _; exact Nat.le_refl _
    | cons e l ih =>
      intro h
      have h1 := h e List.mem_cons_self
      have h2 := ih fun u hu => h u (List.mem_cons_of_mem _ hu)
      have h3 := one e
      show (1 + D.sizes (e.map D.int)) + D.sizes (l.map expD) ≤ 10 * (l.length + 1)
      omega
  have a := key (expsTo n d) fun e he => (expsTo_el n hn d hd e he).1
  have b := expsTo_len n hn d hd
  show 1 + D.sizes ((expsTo n d).map expD) ≤ 400000
  omega
theorem Rep.lstE {H : Hp} {es : List (List Int)} {a : Addr} {vs : List V} (ha : H a = some (.lst vs)) (h : Reps H (es.map expD) vs) : Rep H (.lst (es.map expD)) (.ref a) := ⟨a, vs, rfl, ha, h⟩
/-! ### what repr says of the two -/
theorem mem_le_sumN : ∀ {l : List Int} {x : Int}, (∀ y ∈ l, 0 ≤ y) → x ∈ l → x ≤ l.sum
  | y :: l, x, h, hx => by
    have h1 := h y List.mem_cons_self
    have h2 := sumI_nonneg (l := l) fun z hz => h z (List.mem_cons_of_mem _ hz)
    rw [List.sum_cons]
    rcases List.mem_cons.mp hx with rfl | hx
    · omega
    · have := mem_le_sumN (fun z hz => h z (List.mem_cons_of_mem _ hz)) hx
      omega
theorem DrT.lw {n k : Nat} {ts : List Tp} (h : DrT n k ts) (hk : k ≤ 4) : (D.lst (ts.map tpD)).Lw := D.lws_of fun d hd => by
  obtain ⟨t, ht, rfl⟩ := List.mem_map.mp hd
  obtain ⟨⟨h1, h2, h3⟩, h4, h5, h6⟩ := h.each t ht
  have hp := h4.1
  refine ⟨D.lws_of fun d hd => ?_, ⟨?_, ?_, trivial⟩, trivial⟩
  · obtain ⟨x, hx, rfl⟩ := List.mem_map.mp hd
    have := mem_le_sumN h2 hx
    have := h2 x hx
    show x.natAbs < 10 ^ 32
    exact Nat.lt_of_le_of_lt (show x.natAbs ≤ 10 by omega) (by decide)
  · show t.2.1.natAbs < 10 ^ 32
    exact Nat.lt_of_le_of_lt h5 (by decide)
  · show t.2.2.natAbs < 10 ^ 32
    exact Nat.lt_of_le_of_lt (show t.2.2.natAbs ≤ 10 ^ 30 by omega) (by decide)
theorem DrT.size {n k : Nat} {ts : List Tp} (h : DrT n k ts) (hn : n ≤ 4) : (D.lst (ts.map tpD)).size ≤ 1 + 1320 := by
  have key : ∀ l : List Tp, (∀ t ∈ l, t.1.length ≤ 100) → D.sizes (l.map tpD) ≤ 110 * l.length := by
    intro l
    induction l with
    | nil => intro _; exact Nat.le_refl _
    | cons t l ih =>
      intro h
      have h1 := tp_size t (h t List.mem_cons_self)
      have h2 := ih fun u hu => h u (List.mem_cons_of_mem _ hu)
      show (tpD t).size + D.sizes (l.map tpD) ≤ 110 * (l.length + 1)
      omega
  have := key ts (fun t ht => by rw [(h.each t ht).1.1]; omega)
  have := h.len
  show 1 + D.sizes (ts.map tpD) ≤ _
  omega
theorem tps_dep (ts : List Tp) : D.deps (ts.map tpD) ≤ 2 := by
  induction ts with
  | nil => exact Nat.zero_le _
  | cons t ts ih =>
    show max (tpD t).dep (D.deps (ts.map tpD)) ≤ 2
    have := tp_dep t
    omega
def pairD (ts ws : List Tp) : D := .lst [.lst (ts.map tpD), .lst (ws.map tpD)]
theorem pair_ok {n k k2 : Nat} {ts ws : List Tp} (h : DrT n k ts) (h2 : DrT n k2 ws) (hn : n ≤ 4) (hk : k ≤ 4) (hk2 : k2 ≤ 4) : (pairD ts ws).Lw ∧ (pairD ts ws).size ≤ 3000 ∧ (pairD ts ws).dep ≤ 60 := by
  refine ⟨⟨h.lw hk, h2.lw hk2, trivial⟩, ?_, ?_⟩
  · have a := h.size hn
    have b := h2.size hn
    show 1 + ((D.lst (ts.map tpD)).size + ((D.lst (ws.map tpD)).size + 0)) ≤ 3000
    omega
  · have a := tps_dep ts
    have b := tps_dep ws
    show max (D.deps (ts.map tpD) + 1) (max (D.deps (ws.map tpD) + 1) 0) + 1 ≤ 60
    omega
theorem Rep.pair {H : Hp} {a l m : Addr} {us vs : List V} {ts ws : List Tp} (h : H a = some (.lst [.ref l, .ref m])) (hl : H l = some (.lst us)) (hm : H m = some (.lst vs)) (ru : Reps H (ts.map tpD) us) (rv : Reps H (ws.map tpD) vs) : Rep H (pairD ts ws) (.ref a) :=
  ⟨a, _, rfl, h, ⟨_, _, rfl, Rep.lst hl ru, _, _, rfl, Rep.lst hm rv, rfl⟩⟩
end Bk
namespace Lw
open PySem PySem.Spec PyProof.Rows L2 Bk
local macro_rules | `(tactic| walk_at "side") => `(tactic| first | assumption | decide | omega | exact .inl (.inl ⟨by decide, by decide⟩) | exact .inl (.inr ⟨by decide, by decide⟩) | exact ⟨by decide, by decide, by decide⟩ | exact ⟨by decide, by decide⟩)
local macro_rules | `(tactic| walk_at "heap") => `(tactic| first | assumption | exact upd_same | (refine Eq.trans (upd_ne (ne_of_none (by assumption) (by assumption))) ?_; assumption))
local macro_rules | `(tactic| walk_at "go1") => `(tactic| with_reducible first
  | refine g_seq ?_ | refine g_asg ?_ | refine g_ret ?_ | refine g_retN ?_ | refine g_drop ?_ | refine g_ifs ?_ | refine g_next ?_ | refine g_par ?_ | refine g_pair ?_ | refine g_name ?_ | refine g_sub ?_
  | refine g_c ?_ | refine g_op ?_ | refine g_un ?_ | refine g_cons ?_ | refine g_nil ?_ | refine g_cb ?_ | refine g_call ?_ | refine g_if ?_ | refine g_iT ?_ | refine g_iF ?_ | refine g_iNT ?_ | refine g_iNF ?_ | refine g_notV ?_ | refine g_not ?_ | refine g_and ?_ | refine g_or ?_
  | refine g_uT ?_ | refine g_test ?_ | refine g_tB ?_ | refine g_bl ?_ | refine g_chain ?_ | refine g_andV ?_ | refine g_orV ?_ | refine g_tbl ?_ | refine g_tin ?_ | refine g_addI ?_ | refine g_i0 ?_ | refine g_neg ?_ | refine g_eqI ?_ | refine g_neI ?_ | refine g_eqS ?_ | refine g_neS ?_ | refine g_neBB ?_ | refine g_neB ?_ | refine g_lz ?_ | refine g_bmS ?_ | refine g_tyStr ?_ | refine g_tyS ?_ | refine g_dnew ?_ | refine g_lcU ?_ | refine g_yes ?_ | refine g_dg ?_ | refine g_di ?_ | refine g_dni ?_ | refine g_dp ?_ | refine g_ds ?_ | refine g_for ?_ | refine g_rng1 ?_ | refine g_rng2 ?_ | refine g_zipA ?_ | refine g_sl ?_ | refine g_noP ?_ | refine g_part ?_ | refine g_exI ?_ | refine g_isNn ?_ | refine g_isNr ?_ | refine g_isNi ?_ | refine g_notNn ?_ | refine g_notNr ?_ | refine g_notNi ?_
  | refine g_abs ?_ | refine g_max ?_ | refine g_min ?_ | refine g_intI ?_ | refine g_intB ?_ | refine g_tup ?_ | refine g_lst ?_ | refine g_bm0 ?_ | refine g_bm ?_ | refine g_uJs ?_ | refine g_js ?_ | refine g_jn ?_ | refine g_fmt ?_)
local macro_rules | `(tactic| walk_at "go2") => `(tactic| first
  | refine g_var rfl ?_ | ((with_reducible apply g_iS); (· walk_at "side"))
  | ((with_reducible apply g_lenL); (· assumption)) | ((with_reducible apply g_lenT); (· assumption)) | ((with_reducible apply g_lenSq); (· assumption))
  | ((with_reducible apply g_ixL); (· assumption); (· rfl)) | ((with_reducible apply g_ixT); (· assumption); (· rfl))
  | ((with_reducible apply g_tyL); (· assumption)))
local macro_rules | `(tactic| walk_at "go") => `(tactic| repeat (first | walk_at "go1" | walk_at "go2"))
def top (i : Nat) : Stmt := PySem.Challenge.pw_boughkept_k03_polynomials_reckoned.main.body.getD i (.Pass ⟨0, 0, 0, 0⟩)
abbrev sI_Nought : Stmt := inClass (top 1) 0
theorem scI_Nought : FnScope ["self"] ["self"] (defScope sI_Nought) := ⟨rfl, rfl, rfl, by decide +kernel, rfl, by decide +kernel, by decide +kernel⟩
abbrev s_common_part : Stmt := top 3
theorem sc_common_part : FnScope ["one", "other"] ["one", "other"] (defScope s_common_part) := ⟨rfl, rfl, rfl, by decide +kernel, rfl, by decide +kernel, by decide +kernel⟩
abbrev s_fraction_of : Stmt := top 4
theorem sc_fraction_of : FnScope ["upper", "lower", "part"] ["upper", "lower"] (defScope s_fraction_of) := ⟨rfl, rfl, rfl, by decide +kernel, rfl, by decide +kernel, by decide +kernel⟩
abbrev s_added : Stmt := top 5
theorem sc_added : FnScope ["one", "other"] ["one", "other"] (defScope s_added) := ⟨rfl, rfl, rfl, by decide +kernel, rfl, by decide +kernel, by decide +kernel⟩
abbrev s_multiplied : Stmt := top 6
theorem sc_multiplied : FnScope ["one", "other"] ["one", "other"] (defScope s_multiplied) := ⟨rfl, rfl, rfl, by decide +kernel, rfl, by decide +kernel, by decide +kernel⟩
abbrev s_show_fraction : Stmt := top 7
abbrev s_of_degree : Stmt := top 9
abbrev N_of_degree : List Str := ["boxes", "degree", "found", "first", "rest"]
theorem sc_of_degree : FnScope ["boxes", "degree", "found", "first", "rest"] ["boxes", "degree"] (defScope s_of_degree) := ⟨rfl, rfl, rfl, by decide +kernel, rfl, by decide +kernel, by decide +kernel⟩
abbrev s_exponents_to : Stmt := top 10
theorem sc_exponents_to : FnScope ["boxes", "degree", "found", "one"] ["boxes", "degree"] (defScope s_exponents_to) := ⟨rfl, rfl, rfl, by decide +kernel, rfl, by decide +kernel, by decide +kernel⟩
abbrev s_place_in_order : Stmt := top 11
abbrev N_place_in_order : List Str := ["exponents", "e"]
theorem sc_place_in_order : FnScope ["exponents", "e"] ["exponents"] (defScope s_place_in_order) := ⟨rfl, rfl, rfl, by decide +kernel, rfl, by decide +kernel, by decide +kernel⟩
abbrev s_product_at : Stmt := top 12
theorem sc_product_at : FnScope ["exponents", "numbers", "found", "e", "number", "turn"] ["exponents", "numbers"] (defScope s_product_at) := ⟨rfl, rfl, rfl, by decide +kernel, rfl, by decide +kernel, by decide +kernel⟩
abbrev s_term_text : Stmt := top 13
abbrev s_law_box : Stmt := top 16
theorem sc_law_box : FnScope ["_law_script", "_law_k", "_law_cell", "_law_seed"] ["_law_script", "_law_k"] (defScope s_law_box) := ⟨rfl, rfl, rfl, by decide +kernel, rfl, by decide +kernel, by decide +kernel⟩
abbrev s_law_take : Stmt := top 17
theorem sc_law_take : FnScope ["_law_box_here", "_law_many", "_law_digit", "_law_one"] ["_law_box_here", "_law_many"] (defScope s_law_take) := ⟨rfl, rfl, rfl, by decide +kernel, rfl, by decide +kernel, by decide +kernel⟩
abbrev s_law_alike : Stmt := top 18
theorem sc_law_alike : FnScope ["_law_found", "_law_due", "_law_left", "_law_one", "_law_other"] ["_law_found", "_law_due"] (defScope s_law_alike) := ⟨rfl, rfl, rfl, by decide +kernel, rfl, by decide +kernel, by decide +kernel⟩
abbrev s_law_shared : Stmt := top 19
theorem sc_law_shared : FnScope ["_law_one", "_law_other"] ["_law_one", "_law_other"] (defScope s_law_shared) := ⟨rfl, rfl, rfl, by decide +kernel, rfl, by decide +kernel, by decide +kernel⟩
abbrev s_law_lowest : Stmt := top 20
theorem sc_law_lowest : FnScope ["_law_upper", "_law_lower", "_law_part"] ["_law_upper", "_law_lower"] (defScope s_law_lowest) := ⟨rfl, rfl, rfl, by decide +kernel, rfl, by decide +kernel, by decide +kernel⟩
abbrev s_law_plus : Stmt := top 21
theorem sc_law_plus : FnScope ["_law_one", "_law_other"] ["_law_one", "_law_other"] (defScope s_law_plus) := ⟨rfl, rfl, rfl, by decide +kernel, rfl, by decide +kernel, by decide +kernel⟩
abbrev s_law_by : Stmt := top 22
theorem sc_law_by : FnScope ["_law_one", "_law_other"] ["_law_one", "_law_other"] (defScope s_law_by) := ⟨rfl, rfl, rfl, by decide +kernel, rfl, by decide +kernel, by decide +kernel⟩
abbrev s_law_number : Stmt := top 23
theorem sc_law_number : FnScope ["_law_box_here", "_law_form", "_law_upper"] ["_law_box_here"] (defScope s_law_number) := ⟨rfl, rfl, rfl, by decide +kernel, rfl, by decide +kernel, by decide +kernel⟩
abbrev s_law_exponents : Stmt := top 24
abbrev N_law_exponents : List Str := ["_law_boxes", "_law_degree", "_law_found", "_law_b", "_law_longer", "_law_one", "_law_e"]
theorem sc_law_exponents : FnScope ["_law_boxes", "_law_degree", "_law_found", "_law_b", "_law_longer", "_law_one", "_law_e"] ["_law_boxes", "_law_degree"] (defScope s_law_exponents) := ⟨rfl, rfl, rfl, by decide +kernel, rfl, by decide +kernel, by decide +kernel⟩
abbrev s_law_power : Stmt := top 25
theorem sc_law_power : FnScope ["_law_exponents_here", "_law_numbers", "_law_found", "_law_e", "_law_number_here", "_law_turn"] ["_law_exponents_here", "_law_numbers"] (defScope s_law_power) := ⟨rfl, rfl, rfl, by decide +kernel, rfl, by decide +kernel, by decide +kernel⟩
abbrev s_law_value : Stmt := top 26
theorem sc_law_value : FnScope ["_law_own", "_law_numbers", "_law_found", "_law_exponents_here", "_law_number_here"] ["_law_own", "_law_numbers"] (defScope s_law_value) := ⟨rfl, rfl, rfl, by decide +kernel, rfl, by decide +kernel, by decide +kernel⟩
abbrev s_law_poly : Stmt := top 27
theorem sc_law_poly : FnScope ["_law_box_here", "_law_boxes", "_law_degree", "_law_found", "_law_some", "_law_t"] ["_law_box_here", "_law_boxes", "_law_degree"] (defScope s_law_poly) := ⟨rfl, rfl, rfl, by decide +kernel, rfl, by decide +kernel, by decide +kernel⟩
abbrev s_law_gathered : Stmt := top 28
abbrev N_law_gathered : List Str := ["_law_own", "_law_found", "_law_exponents_here", "_law_number_here", "_law_some"]
theorem sc_law_gathered : FnScope ["_law_own", "_law_found", "_law_exponents_here", "_law_number_here", "_law_some"] ["_law_own"] (defScope s_law_gathered) := ⟨rfl, rfl, rfl, by decide +kernel, rfl, by decide +kernel, by decide +kernel⟩
abbrev s_law_product : Stmt := top 29
abbrev N_law_product : List Str := ["_law_one", "_law_other", "_law_found", "_law_exponents_here", "_law_number_here", "_law_more", "_law_factor", "_law_both", "_law_e", "_law_f"]
theorem sc_law_product : FnScope ["_law_one", "_law_other", "_law_found", "_law_exponents_here", "_law_number_here", "_law_more", "_law_factor", "_law_both", "_law_e", "_law_f"] ["_law_one", "_law_other"] (defScope s_law_product) := ⟨rfl, rfl, rfl, by decide +kernel, rfl, by decide +kernel, by decide +kernel⟩
abbrev s_law_is : Stmt := top 30
abbrev N_law_is : List Str := ["_law_poly_here", "_law_boxes", "_law_own", "_law_due", "_law_exponents_here", "_law_number_here"]
theorem sc_law_is : FnScope ["_law_poly_here", "_law_boxes", "_law_own", "_law_due", "_law_exponents_here", "_law_number_here"] ["_law_poly_here", "_law_boxes", "_law_own"] (defScope s_law_is) := ⟨rfl, rfl, rfl, by decide +kernel, rfl, by decide +kernel, by decide +kernel⟩
abbrev s_law_contrary : Stmt := top 31
theorem sc_law_contrary : FnScope ["_law_box_here", "_law_own", "_law_found", "_law_exponents_here", "_law_number_here", "_law_turn"] ["_law_box_here", "_law_own"] (defScope s_law_contrary) := ⟨rfl, rfl, rfl, by decide +kernel, rfl, by decide +kernel, by decide +kernel⟩
abbrev s_law_equals : Stmt := top 32
abbrev N_law_equals : List Str := ["_law_box_here", "_law_boxes", "_law_own", "_law_poly_here", "_law_same", "_law_more", "_law_wide", "_law_exponents_here", "_law_number_here"]
theorem sc_law_equals : FnScope ["_law_box_here", "_law_boxes", "_law_own", "_law_poly_here", "_law_same", "_law_more", "_law_wide", "_law_exponents_here", "_law_number_here"] ["_law_box_here", "_law_boxes", "_law_own", "_law_poly_here"] (defScope s_law_equals) := ⟨rfl, rfl, rfl, by decide +kernel, rfl, by decide +kernel, by decide +kernel⟩
abbrev s_law_right : Stmt := top 33
abbrev N_law_right : List Str := ["_law_box_here", "_law_boxes", "_law_one", "_law_other", "_law_kept", "_law_handed", "_law_first", "_law_second", "_law_due", "_law_more", "_law_number_here", "_law_scaled", "_law_numbers", "_law_exponents_here", "_law_own", "_law_b"]
theorem sc_law_right : FnScope ["_law_box_here", "_law_boxes", "_law_one", "_law_other", "_law_kept", "_law_handed", "_law_first", "_law_second", "_law_due", "_law_more", "_law_number_here", "_law_scaled", "_law_numbers", "_law_exponents_here", "_law_own", "_law_b"] ["_law_box_here", "_law_boxes", "_law_one", "_law_other"] (defScope s_law_right) := ⟨rfl, rfl, rfl, by decide +kernel, rfl, by decide +kernel, by decide +kernel⟩
abbrev s_law_long : Stmt := top 34
theorem sc_law_long : FnScope ["_law_box_here", "_law_some", "_law_found", "_law_t", "_law_upper", "_law_number_here"] ["_law_box_here", "_law_some"] (defScope s_law_long) := ⟨rfl, rfl, rfl, by decide +kernel, rfl, by decide +kernel, by decide +kernel⟩
abbrev s_law : Stmt := top 35
theorem sc_law : FnScope ["_law_script", "_law_k", "_law_box_here", "_law_boxes", "_law_degree", "_law_one", "_law_other"] ["_law_script"] (defScope s_law) := ⟨rfl, rfl, rfl, by decide +kernel, rfl, by decide +kernel, by decide +kernel⟩
abbrev s_Poly_init : Stmt := inClass (top 14) 0
abbrev N_Poly_init : List Str := ["self", "boxes", "terms", "found", "exponents", "number", "some"]
theorem sc_Poly_init : FnScope ["self", "boxes", "terms", "found", "exponents", "number", "some"] ["self", "boxes", "terms"] (defScope s_Poly_init) := ⟨rfl, rfl, rfl, by decide +kernel, rfl, by decide +kernel, by decide +kernel⟩
abbrev s_Poly_eq : Stmt := inClass (top 14) 1
theorem sc_Poly_eq : FnScope ["self", "other"] ["self", "other"] (defScope s_Poly_eq) := ⟨rfl, rfl, rfl, by decide +kernel, rfl, by decide +kernel, by decide +kernel⟩
abbrev s_Poly_len : Stmt := inClass (top 14) 2
theorem sc_Poly_len : FnScope ["self"] ["self"] (defScope s_Poly_len) := ⟨rfl, rfl, rfl, by decide +kernel, rfl, by decide +kernel, by decide +kernel⟩
abbrev s_Poly_str : Stmt := inClass (top 14) 3
abbrev s_Poly_repr : Stmt := inClass (top 14) 4
abbrev s_Poly_terms : Stmt := inClass (top 14) 5
theorem sc_Poly_terms : FnScope ["self"] ["self"] (defScope s_Poly_terms) := ⟨rfl, rfl, rfl, by decide +kernel, rfl, by decide +kernel, by decide +kernel⟩
abbrev s_Poly_degree : Stmt := inClass (top 14) 6
abbrev N_Poly_degree : List Str := ["self", "exponents", "number"]
theorem sc_Poly_degree : FnScope ["self", "exponents", "number"] ["self"] (defScope s_Poly_degree) := ⟨rfl, rfl, rfl, by decide +kernel, rfl, by decide +kernel, by decide +kernel⟩
abbrev s_Poly_worth : Stmt := inClass (top 14) 7
theorem sc_Poly_worth : FnScope ["self", "numbers", "found", "exponents", "number"] ["self", "numbers"] (defScope s_Poly_worth) := ⟨rfl, rfl, rfl, by decide +kernel, rfl, by decide +kernel, by decide +kernel⟩
abbrev s_Poly_plus : Stmt := inClass (top 14) 8
theorem sc_Poly_plus : FnScope ["self", "other"] ["self", "other"] (defScope s_Poly_plus) := ⟨rfl, rfl, rfl, by decide +kernel, rfl, by decide +kernel, by decide +kernel⟩
abbrev s_Poly_by : Stmt := inClass (top 14) 9
abbrev N_Poly_by : List Str := ["self", "other", "found", "exponents", "number", "more", "factor", "both", "e", "f"]
theorem sc_Poly_by : FnScope ["self", "other", "found", "exponents", "number", "more", "factor", "both", "e", "f"] ["self", "other"] (defScope s_Poly_by) := ⟨rfl, rfl, rfl, by decide +kernel, rfl, by decide +kernel, by decide +kernel⟩
abbrev s_Poly_scaled : Stmt := inClass (top 14) 10
abbrev N_Poly_scaled : List Str := ["self", "number", "exponents", "own"]
theorem sc_Poly_scaled : FnScope ["self", "number", "exponents", "own"] ["self", "number"] (defScope s_Poly_scaled) := ⟨rfl, rfl, rfl, by decide +kernel, rfl, by decide +kernel, by decide +kernel⟩
structure Txt (K : PySem.W.Frag) (mg : Str → Option Value) (base : Heap) where
  a_Nought : Addr
  m_Nought : mg "Nought" = some (.ref a_Nought)
  x_Nought : OexB K a_Nought "ZeroDivisionError.__new__" [.type "ZeroDivisionError", .type "ArithmeticError", .type "Exception", .type "BaseException", .type "object"]
  e_Nought : PySem.W.exmOne K (.ref a_Nought) (.ref a_Nought) = some true
  c_Nought : ExcC K a_Nought
  i0_Nought : PySem.W.isClsIn K a_Nought = true
  t0_Nought : PySem.W.typeIn K (.ref a_Nought) = some (.type "type")
  s0_Nought : PySem.W.subIn K (.ref a_Nought) (.ref a_Nought) = some true
  aI_Nought : Addr
  dI_Nought : FuncData
  FI_Nought : Fun K "__init__" "Nought.__init__" sI_Nought aI_Nought dI_Nought
  bI_Nought : Binds K dI_Nought ["self"] []
  i_Nought : PySem.W.findIn K (.ref a_Nought) "__init__" = some (some (.ref aI_Nought))
  t_Nought : PySem.W.typeIn K (.ref aI_Nought) = some (.type "function")
  v_ZeroDivisionError : PySem.W.findCls K (.type "ZeroDivisionError") (.type "type") "__init__" = some (.val (.builtin "ZeroDivisionError.__init__"))
  a_Poly : Addr
  m_Poly : mg "Poly" = some (.ref a_Poly)
  cl_Poly : Cls K a_Poly
  na_Poly_boxes : NoAttr K a_Poly "boxes"
  na_Poly_kept : NoAttr K a_Poly "kept"
  oth_Poly : Oth K a_Poly
  a_common_part : Addr
  d_common_part : FuncData
  m_common_part : mg "common_part" = some (.ref a_common_part)
  b_common_part : Binds K d_common_part ["one", "other"] []
  F_common_part : Fun K "common_part" "common_part" s_common_part a_common_part d_common_part
  a_fraction_of : Addr
  d_fraction_of : FuncData
  m_fraction_of : mg "fraction_of" = some (.ref a_fraction_of)
  b_fraction_of : Binds K d_fraction_of ["upper", "lower"] []
  F_fraction_of : FunD K "fraction_of" "fraction_of" (defArgs s_fraction_of) (defBody s_fraction_of) (defScope s_fraction_of) [.int 1] [] a_fraction_of d_fraction_of
  bv_fraction_of1 : ∃ ds, Vals [.int 1] ds ∧ Binds K d_fraction_of ["upper", "lower"] ds
  a_added : Addr
  d_added : FuncData
  m_added : mg "added" = some (.ref a_added)
  b_added : Binds K d_added ["one", "other"] []
  F_added : Fun K "added" "added" s_added a_added d_added
  a_multiplied : Addr
  d_multiplied : FuncData
  m_multiplied : mg "multiplied" = some (.ref a_multiplied)
  b_multiplied : Binds K d_multiplied ["one", "other"] []
  F_multiplied : Fun K "multiplied" "multiplied" s_multiplied a_multiplied d_multiplied
  a_show_fraction : Addr
  d_show_fraction : FuncData
  m_show_fraction : mg "show_fraction" = some (.ref a_show_fraction)
  b_show_fraction : Binds K d_show_fraction ["one"] []
  F_show_fraction : Fun K "show_fraction" "show_fraction" s_show_fraction a_show_fraction d_show_fraction
  a_of_degree : Addr
  d_of_degree : FuncData
  m_of_degree : mg "of_degree" = some (.ref a_of_degree)
  b_of_degree : Binds K d_of_degree ["boxes", "degree"] []
  F_of_degree : Fun K "of_degree" "of_degree" s_of_degree a_of_degree d_of_degree
  a_exponents_to : Addr
  d_exponents_to : FuncData
  m_exponents_to : mg "exponents_to" = some (.ref a_exponents_to)
  b_exponents_to : Binds K d_exponents_to ["boxes", "degree"] []
  F_exponents_to : Fun K "exponents_to" "exponents_to" s_exponents_to a_exponents_to d_exponents_to
  a_place_in_order : Addr
  d_place_in_order : FuncData
  m_place_in_order : mg "place_in_order" = some (.ref a_place_in_order)
  b_place_in_order : Binds K d_place_in_order ["exponents"] []
  F_place_in_order : Fun K "place_in_order" "place_in_order" s_place_in_order a_place_in_order d_place_in_order
  a_product_at : Addr
  d_product_at : FuncData
  m_product_at : mg "product_at" = some (.ref a_product_at)
  b_product_at : Binds K d_product_at ["exponents", "numbers"] []
  F_product_at : Fun K "product_at" "product_at" s_product_at a_product_at d_product_at
  a_term_text : Addr
  d_term_text : FuncData
  m_term_text : mg "term_text" = some (.ref a_term_text)
  b_term_text : Binds K d_term_text ["exponents", "number"] []
  F_term_text : Fun K "term_text" "term_text" s_term_text a_term_text d_term_text
  a_law_box : Addr
  d_law_box : FuncData
  m_law_box : mg "_law_box" = some (.ref a_law_box)
  b_law_box : Binds K d_law_box ["_law_script", "_law_k"] []
  F_law_box : Fun K "_law_box" "_law_box" s_law_box a_law_box d_law_box
  a_law_take : Addr
  d_law_take : FuncData
  m_law_take : mg "_law_take" = some (.ref a_law_take)
  b_law_take : Binds K d_law_take ["_law_box_here", "_law_many"] []
  F_law_take : Fun K "_law_take" "_law_take" s_law_take a_law_take d_law_take
  a_law_alike : Addr
  d_law_alike : FuncData
  m_law_alike : mg "_law_alike" = some (.ref a_law_alike)
  b_law_alike : Binds K d_law_alike ["_law_found", "_law_due"] []
  F_law_alike : Fun K "_law_alike" "_law_alike" s_law_alike a_law_alike d_law_alike
  a_law_shared : Addr
  d_law_shared : FuncData
  m_law_shared : mg "_law_shared" = some (.ref a_law_shared)
  b_law_shared : Binds K d_law_shared ["_law_one", "_law_other"] []
  F_law_shared : Fun K "_law_shared" "_law_shared" s_law_shared a_law_shared d_law_shared
  a_law_lowest : Addr
  d_law_lowest : FuncData
  m_law_lowest : mg "_law_lowest" = some (.ref a_law_lowest)
  b_law_lowest : Binds K d_law_lowest ["_law_upper", "_law_lower"] []
  F_law_lowest : Fun K "_law_lowest" "_law_lowest" s_law_lowest a_law_lowest d_law_lowest
  a_law_plus : Addr
  d_law_plus : FuncData
  m_law_plus : mg "_law_plus" = some (.ref a_law_plus)
  b_law_plus : Binds K d_law_plus ["_law_one", "_law_other"] []
  F_law_plus : Fun K "_law_plus" "_law_plus" s_law_plus a_law_plus d_law_plus
  a_law_by : Addr
  d_law_by : FuncData
  m_law_by : mg "_law_by" = some (.ref a_law_by)
  b_law_by : Binds K d_law_by ["_law_one", "_law_other"] []
  F_law_by : Fun K "_law_by" "_law_by" s_law_by a_law_by d_law_by
  a_law_number : Addr
  d_law_number : FuncData
  m_law_number : mg "_law_number" = some (.ref a_law_number)
  b_law_number : Binds K d_law_number ["_law_box_here"] []
  F_law_number : Fun K "_law_number" "_law_number" s_law_number a_law_number d_law_number
  a_law_exponents : Addr
  d_law_exponents : FuncData
  m_law_exponents : mg "_law_exponents" = some (.ref a_law_exponents)
  b_law_exponents : Binds K d_law_exponents ["_law_boxes", "_law_degree"] []
  F_law_exponents : Fun K "_law_exponents" "_law_exponents" s_law_exponents a_law_exponents d_law_exponents
  a_law_power : Addr
  d_law_power : FuncData
  m_law_power : mg "_law_power" = some (.ref a_law_power)
  b_law_power : Binds K d_law_power ["_law_exponents_here", "_law_numbers"] []
  F_law_power : Fun K "_law_power" "_law_power" s_law_power a_law_power d_law_power
  a_law_value : Addr
  d_law_value : FuncData
  m_law_value : mg "_law_value" = some (.ref a_law_value)
  b_law_value : Binds K d_law_value ["_law_own", "_law_numbers"] []
  F_law_value : Fun K "_law_value" "_law_value" s_law_value a_law_value d_law_value
  a_law_poly : Addr
  d_law_poly : FuncData
  m_law_poly : mg "_law_poly" = some (.ref a_law_poly)
  b_law_poly : Binds K d_law_poly ["_law_box_here", "_law_boxes", "_law_degree"] []
  F_law_poly : Fun K "_law_poly" "_law_poly" s_law_poly a_law_poly d_law_poly
  a_law_gathered : Addr
  d_law_gathered : FuncData
  m_law_gathered : mg "_law_gathered" = some (.ref a_law_gathered)
  b_law_gathered : Binds K d_law_gathered ["_law_own"] []
  F_law_gathered : Fun K "_law_gathered" "_law_gathered" s_law_gathered a_law_gathered d_law_gathered
  a_law_product : Addr
  d_law_product : FuncData
  m_law_product : mg "_law_product" = some (.ref a_law_product)
  b_law_product : Binds K d_law_product ["_law_one", "_law_other"] []
  F_law_product : Fun K "_law_product" "_law_product" s_law_product a_law_product d_law_product
  a_law_is : Addr
  d_law_is : FuncData
  m_law_is : mg "_law_is" = some (.ref a_law_is)
  b_law_is : Binds K d_law_is ["_law_poly_here", "_law_boxes", "_law_own"] []
  F_law_is : Fun K "_law_is" "_law_is" s_law_is a_law_is d_law_is
  a_law_contrary : Addr
  d_law_contrary : FuncData
  m_law_contrary : mg "_law_contrary" = some (.ref a_law_contrary)
  b_law_contrary : Binds K d_law_contrary ["_law_box_here", "_law_own"] []
  F_law_contrary : Fun K "_law_contrary" "_law_contrary" s_law_contrary a_law_contrary d_law_contrary
  a_law_equals : Addr
  d_law_equals : FuncData
  m_law_equals : mg "_law_equals" = some (.ref a_law_equals)
  b_law_equals : Binds K d_law_equals ["_law_box_here", "_law_boxes", "_law_own", "_law_poly_here"] []
  F_law_equals : Fun K "_law_equals" "_law_equals" s_law_equals a_law_equals d_law_equals
  a_law_right : Addr
  d_law_right : FuncData
  m_law_right : mg "_law_right" = some (.ref a_law_right)
  b_law_right : Binds K d_law_right ["_law_box_here", "_law_boxes", "_law_one", "_law_other"] []
  F_law_right : Fun K "_law_right" "_law_right" s_law_right a_law_right d_law_right
  a_law_long : Addr
  d_law_long : FuncData
  m_law_long : mg "_law_long" = some (.ref a_law_long)
  b_law_long : Binds K d_law_long ["_law_box_here", "_law_some"] []
  F_law_long : Fun K "_law_long" "_law_long" s_law_long a_law_long d_law_long
  a_law : Addr
  d_law : FuncData
  m_law : mg "law" = some (.ref a_law)
  b_law : Binds K d_law ["_law_script"] []
  F_law : Fun K "law" "law" s_law a_law d_law
  a_Poly_init : Addr
  d_Poly_init : FuncData
  mt_Poly_init : Meth K a_Poly "__init__" a_Poly_init
  b_Poly_init : Binds K d_Poly_init ["self", "boxes", "terms"] []
  mk_Poly : Mk K a_Poly a_Poly_init
  F_Poly_init : FunD K "__init__" "Poly.__init__" (defArgs s_Poly_init) (defBody s_Poly_init) (defScope s_Poly_init) [.non] [] a_Poly_init d_Poly_init
  bv_Poly_init1 : ∃ ds, Vals [.non] ds ∧ Binds K d_Poly_init ["self", "boxes", "terms"] ds
  a_Poly_eq : Addr
  d_Poly_eq : FuncData
  mt_Poly_eq : Meth K a_Poly "__eq__" a_Poly_eq
  b_Poly_eq : Binds K d_Poly_eq ["self", "other"] []
  F_Poly_eq : Fun K "__eq__" "Poly.__eq__" s_Poly_eq a_Poly_eq d_Poly_eq
  a_Poly_len : Addr
  d_Poly_len : FuncData
  mt_Poly_len : Meth K a_Poly "__len__" a_Poly_len
  b_Poly_len : Binds K d_Poly_len ["self"] []
  F_Poly_len : Fun K "__len__" "Poly.__len__" s_Poly_len a_Poly_len d_Poly_len
  a_Poly_str : Addr
  d_Poly_str : FuncData
  mt_Poly_str : Meth K a_Poly "__str__" a_Poly_str
  b_Poly_str : Binds K d_Poly_str ["self"] []
  F_Poly_str : Fun K "__str__" "Poly.__str__" s_Poly_str a_Poly_str d_Poly_str
  a_Poly_repr : Addr
  d_Poly_repr : FuncData
  mt_Poly_repr : Meth K a_Poly "__repr__" a_Poly_repr
  b_Poly_repr : Binds K d_Poly_repr ["self"] []
  F_Poly_repr : Fun K "__repr__" "Poly.__repr__" s_Poly_repr a_Poly_repr d_Poly_repr
  a_Poly_terms : Addr
  d_Poly_terms : FuncData
  mt_Poly_terms : Meth K a_Poly "terms" a_Poly_terms
  b_Poly_terms : Binds K d_Poly_terms ["self"] []
  F_Poly_terms : Fun K "terms" "Poly.terms" s_Poly_terms a_Poly_terms d_Poly_terms
  a_Poly_degree : Addr
  d_Poly_degree : FuncData
  mt_Poly_degree : Meth K a_Poly "degree" a_Poly_degree
  b_Poly_degree : Binds K d_Poly_degree ["self"] []
  F_Poly_degree : Fun K "degree" "Poly.degree" s_Poly_degree a_Poly_degree d_Poly_degree
  a_Poly_worth : Addr
  d_Poly_worth : FuncData
  mt_Poly_worth : Meth K a_Poly "worth" a_Poly_worth
  b_Poly_worth : Binds K d_Poly_worth ["self", "numbers"] []
  F_Poly_worth : Fun K "worth" "Poly.worth" s_Poly_worth a_Poly_worth d_Poly_worth
  a_Poly_plus : Addr
  d_Poly_plus : FuncData
  mt_Poly_plus : Meth K a_Poly "plus" a_Poly_plus
  b_Poly_plus : Binds K d_Poly_plus ["self", "other"] []
  F_Poly_plus : Fun K "plus" "Poly.plus" s_Poly_plus a_Poly_plus d_Poly_plus
  a_Poly_by : Addr
  d_Poly_by : FuncData
  mt_Poly_by : Meth K a_Poly "by" a_Poly_by
  b_Poly_by : Binds K d_Poly_by ["self", "other"] []
  F_Poly_by : Fun K "by" "Poly.by" s_Poly_by a_Poly_by d_Poly_by
  a_Poly_scaled : Addr
  d_Poly_scaled : FuncData
  mt_Poly_scaled : Meth K a_Poly "scaled" a_Poly_scaled
  b_Poly_scaled : Binds K d_Poly_scaled ["self", "number"] []
  F_Poly_scaled : Fun K "scaled" "Poly.scaled" s_Poly_scaled a_Poly_scaled d_Poly_scaled
  z_ZeroDivisionError : mg "ZeroDivisionError" = none
  z_abs : mg "abs" = none
  z_bool : mg "bool" = none
  z_enumerate : mg "enumerate" = none
  z_int : mg "int" = none
  z_isinstance : mg "isinstance" = none
  z_len : mg "len" = none
  z_list : mg "list" = none
  z_max : mg "max" = none
  z_min : mg "min" = none
  z_range : mg "range" = none
  z_repr : mg "repr" = none
  z_reversed : mg "reversed" = none
  z_sorted : mg "sorted" = none
  z_str : mg "str" = none
  z_sum : mg "sum" = none
  z_tuple : mg "tuple" = none
  z_zip : mg "zip" = none
  cc_law_exponents : Addr
  pt_law_exponents : Addr
  co_law_exponents : d_law_exponents.code = .ref cc_law_exponents
  tb_law_exponents : LamX.TabB base mg cc_law_exponents pt_law_exponents
  cc_law_gathered : Addr
  pt_law_gathered : Addr
  co_law_gathered : d_law_gathered.code = .ref cc_law_gathered
  tb_law_gathered : LamX.TabB base mg cc_law_gathered pt_law_gathered
  cc_Poly_init : Addr
  pt_Poly_init : Addr
  co_Poly_init : d_Poly_init.code = .ref cc_Poly_init
  tb_Poly_init : LamX.TabB base mg cc_Poly_init pt_Poly_init
  pn_law_exponents_law_gathered : pt_law_exponents ≠ pt_law_gathered
  pn_law_exponents_Poly_init : pt_law_exponents ≠ pt_Poly_init
  pn_law_gathered_Poly_init : pt_law_gathered ≠ pt_Poly_init
def tabs {K : PySem.W.Frag} {mg : Str → Option Value} {base : Heap} (T : Txt K mg base) : List (Addr × Str) := [(T.pt_law_exponents, (("_law_exponents" : Str) ++ ".<locals>.") ++ "<lambda>"), (T.pt_law_gathered, (("_law_gathered" : Str) ++ ".<locals>.") ++ "<lambda>"), (T.pt_Poly_init, (("Poly.__init__" : Str) ++ ".<locals>.") ++ "<lambda>")]
theorem mem_law_exponents {K : PySem.W.Frag} {mg : Str → Option Value} {base : Heap} (T : Txt K mg base) : (T.pt_law_exponents, (("_law_exponents" : Str) ++ ".<locals>.") ++ "<lambda>") ∈ tabs T := (.head _)
theorem hu_law_exponents {K : PySem.W.Frag} {mg : Str → Option Value} {base : Heap} (T : Txt K mg base) : ∀ p ∈ tabs T, p.1 = T.pt_law_exponents → p.2 = (("_law_exponents" : Str) ++ ".<locals>.") ++ "<lambda>" := by
  intro p hp e
  rcases List.mem_cons.mp hp with rfl | hp
  · rfl
  rcases List.mem_cons.mp hp with rfl | hp
  · exact absurd e.symm T.pn_law_exponents_law_gathered
  rcases List.mem_cons.mp hp with rfl | hp
  · exact absurd e.symm T.pn_law_exponents_Poly_init
  cases hp
theorem mem_law_gathered {K : PySem.W.Frag} {mg : Str → Option Value} {base : Heap} (T : Txt K mg base) : (T.pt_law_gathered, (("_law_gathered" : Str) ++ ".<locals>.") ++ "<lambda>") ∈ tabs T := (.tail _ (.head _))
theorem hu_law_gathered {K : PySem.W.Frag} {mg : Str → Option Value} {base : Heap} (T : Txt K mg base) : ∀ p ∈ tabs T, p.1 = T.pt_law_gathered → p.2 = (("_law_gathered" : Str) ++ ".<locals>.") ++ "<lambda>" := by
  intro p hp e
  rcases List.mem_cons.mp hp with rfl | hp
  · exact absurd e T.pn_law_exponents_law_gathered
  rcases List.mem_cons.mp hp with rfl | hp
  · rfl
  rcases List.mem_cons.mp hp with rfl | hp
  · exact absurd e.symm T.pn_law_gathered_Poly_init
  cases hp
theorem mem_Poly_init {K : PySem.W.Frag} {mg : Str → Option Value} {base : Heap} (T : Txt K mg base) : (T.pt_Poly_init, (("Poly.__init__" : Str) ++ ".<locals>.") ++ "<lambda>") ∈ tabs T := (.tail _ (.tail _ (.head _)))
theorem hu_Poly_init {K : PySem.W.Frag} {mg : Str → Option Value} {base : Heap} (T : Txt K mg base) : ∀ p ∈ tabs T, p.1 = T.pt_Poly_init → p.2 = (("Poly.__init__" : Str) ++ ".<locals>.") ++ "<lambda>" := by
  intro p hp e
  rcases List.mem_cons.mp hp with rfl | hp
  · exact absurd e T.pn_law_exponents_Poly_init
  rcases List.mem_cons.mp hp with rfl | hp
  · exact absurd e T.pn_law_gathered_Poly_init
  rcases List.mem_cons.mp hp with rfl | hp
  · rfl
  cases hp
section
variable {P : Program} {w : World} {K : PySem.W.Frag} {mg : Str → Option Value} {base : Heap}
def spInit0 (K : PySem.W.Frag) (newId : String) (bmB : List Value) : Sp := fun vs H Q _ => ∃ (a C : Addr), vs = [.ref a] ∧ OexB K C newId bmB ∧ H a = some (exo a C none) ∧ Q .non H
theorem ok_init_Nought (T : Txt K mg base) (z : mg "ZeroDivisionError" = none) : FnOk P w K mg base (L2.CX P w) 1 T.aI_Nought T.dI_Nought ["self"] (spInit0 K "ZeroDivisionError.__new__" [.type "ZeroDivisionError", .type "ArithmeticError", .type "Exception", .type "BaseException", .type "object"]) := by
  refine T.FI_Nought.okX scI_Nought (fun vs H Q E h => ?_) (fun cdv A outer s H vs Q E hr h => ?_)
  · obtain ⟨a, C, rfl, _⟩ := h
    rfl
  obtain ⟨a, C, rfl, ho, ha, q⟩ := h
  refine ⟨_, pss_one (ps_expr (pe_xinitB PySem.F.excBase_ZeroDivisionError (by kernel_rfl) (by decide +kernel) rfl z (by decide +kernel) T.v_ZeroDivisionError (by decide +kernel) (pa_cons (uv 0) (pa_cons pe_str pa_nil)))), ?_⟩
  refine g_drop ?_
  show tCons (uV 0) _ _ _ _
  walk_at "go"
  exact ⟨C, by decide, ho, ha, q⟩
theorem vi_common_part_0 : Vis (defScope s_common_part) "one" := by first | exact Or.inl (by decide +kernel) | exact Or.inr (Or.inl (by decide +kernel)) | exact Or.inr (Or.inr (by decide +kernel))
theorem vi_common_part_1 : Vis (defScope s_common_part) "other" := by first | exact Or.inl (by decide +kernel) | exact Or.inr (Or.inl (by decide +kernel)) | exact Or.inr (Or.inr (by decide +kernel))
theorem gcd_fmod (x y : Int) : Int.gcd y (x.fmod y) = Int.gcd x y := by
  have e : x.fmod y = x - x.fdiv y * y := by
    have := Int.fmod_add_mul_fdiv x y
    rw [Int.mul_comm] at this
    omega
  rw [e, Int.gcd_comm x y, Int.gcd_sub_mul_right_right]
theorem fmod_less {x y : Int} (h : y ≠ 0) : (x.fmod y).natAbs < y.natAbs := by
  by_cases c : 0 < y
  · have a1 := Int.fmod_nonneg_of_pos x c
    have a2 := Int.fmod_lt_of_pos x c
    omega
  · have a1 := Int.fmod_nonneg_of_pos (-x) (b := -y) (by omega)
    have a2 := Int.fmod_lt_of_pos (-x) (b := -y) (by omega)
    rw [Int.neg_fmod_neg] at a1 a2
    omega
def spGcd : Sp := fun vs H Q _ => ∃ a b : Int, vs = [.int a, .int b] ∧ Q (.int (Int.gcd a b : Nat)) H
theorem ok_common_part (T : Txt K mg base) : FnOk P w K mg base (L2.CX P w) 1 T.a_common_part T.d_common_part ["one", "other"] spGcd := by
  refine T.F_common_part.okX sc_common_part (fun vs H Q E h => ?_) (fun cdv A outer s H vs Q E hr h => ?_)
  · obtain ⟨a, b, rfl, _⟩ := h
    rfl
  obtain ⟨a, b, rfl, q⟩ := h
  refine ⟨_, (pss_cons (ps_while (passes_of rfl) (pt_cmpR op_ne (uv 1 (hv := vi_common_part_1)) pe_int (nomark _)) (pss_one (ps_par (i := 0) (j := 1) rfl sc_common_part.nd rfl rfl (by decide) rfl rfl (pa_cons (uv 1 (hv := vi_common_part_1)) (pa_cons (pe_op uo_mod (uv 0 (hv := vi_common_part_0)) (uv 1 (hv := vi_common_part_1))) pa_nil)) rfl)))
      (pss_one (ps_ret (pe_callB uk_abs rfl T.z_abs boot_abs (pa_cons (uv 0 (hv := vi_common_part_0)) pa_nil))))), ?_⟩
  refine g_seq (g_while (fun m σ H1 => ∃ x y : Int, σ = [some (.int x), some (.int y)] ∧ H1 = H ∧ Int.gcd x y = Int.gcd a b ∧ m = y.natAbs) _ ⟨a, b, rfl, rfl, rfl, rfl⟩ ?_)
  rintro m σ H1 ⟨x, y, rfl, rfl, hg, rfl⟩
  walk_at "go"
  refine i_neI (fun c => g_wn ?_) fun c => ?_
  · walk_at "go"
    exact ⟨_, fmod_less c, y, x.fmod y, rfl, rfl, (gcd_fmod x y).trans hg, rfl⟩
  · walk_at "go"
    subst c
    rw [Int.gcd_zero_right] at hg
    rw [hg]
    exact q
theorem vi_place_in_order_0 : Vis (defScope s_place_in_order) "exponents" := by first | exact Or.inl (by decide +kernel) | exact Or.inr (Or.inl (by decide +kernel)) | exact Or.inr (Or.inr (by decide +kernel))
theorem ok_place_in_order (T : Txt K mg base) : FnOk P w K mg base (L2.CX P w) 1 T.a_place_in_order T.d_place_in_order ["exponents"] spPlace := by
  refine T.F_place_in_order.okX sc_place_in_order (fun vs H Q E h => ?_) (fun cdv A outer s H vs Q E hr h => ?_)
  · obtain ⟨_, _, rfl, _⟩ := h
    rfl
  obtain ⟨a, e, rfl, ha, le, q⟩ := h
  refine ⟨_, (pss_one (ps_ret (pe_tup (pa_cons (pe_callB (cr_sumT rfl) rfl T.z_sum boot_sum (pa_cons (uv 0 (hv := vi_place_in_order_0)) pa_nil)) (pa_cons (pe_callTy uk_tup rfl T.z_tuple boot_tuple (pa_cons (pe_lc (own := [("e", 1)]) (g := gName 1) rfl sc_place_in_order.nd (ui_seq (uv 0 (hv := vi_place_in_order_0))) (blkOk_by (own := [("e", 1)]) (N := N_place_in_order) (sc := defScope s_place_in_order) (by decide +kernel)) (fun _ _ _ _ _ => (pg_name (i := 1) sc_place_in_order.nd rfl (by first | exact Or.inl rfl | exact Or.inr rfl))) (fun _ _ _ _ _ => pts_nil) (fun _ _ _ _ _ => (pe_op uo_sub pe_int (uv 1)))) pa_nil)) pa_nil))))), ?_⟩
  walk_at "go"
  refine g_sumT ha ?_
  walk_at "go"
  refine .inr (.inl ?_)
  walk_at "go"
  refine ⟨a, rfl, ⟨_, sqT ha⟩, fun D hD => ?_⟩
  refine lc_mapE walk_tup (fun j _ v => ∃ x, e[j]? = some x ∧ v = .int (0 - x)) (by rw [List.length_map]; omega) hD (fun _ _ _ _ _ r => r) (fun H2 e2 => sqT (e2 _ _ ha)) ?_ ?_
  · rintro j y H2 H3 P N hj e2 ⟨rfl, hy⟩ k
    rw [List.getElem?_map] at hy
    cases c : e[j]? with
    | none => rw [c] at hy; cases hy
    | some x =>
      rw [c] at hy
      cases hy
      walk_at "go"
      refine ⟨rfl, ?_⟩
      walk_at "go"
      exact k _ _ (Ex.refl _) ⟨x, c, rfl⟩
  intro H1 acc e1 hacc hla hr2
  have ea : acc = (negE e).map V.int := acc_intsF (by rw [hla, List.length_map]) hr2
  subst ea
  walk_at "go"
  refine g_tupOf hacc fun l hl => ?_
  have e2 := e1.trans (Ex.new (o := .tup ((negE e).map V.int)) hl)
  have h2 := @upd_same H1 l (.tup ((negE e).map V.int))
  walk_at "go"
  refine g_new fun r hr => ?_
  exact q r _ (e2.trans (Ex.new hr)) (Rep.two upd_same (Rep.i _) (Rep.tupO (by rw [upd_ne (ne_of_none h2 hr)]; exact h2) (intsReps _)))
theorem vi_law_box_0 : Vis (defScope s_law_box) "_law_script" := by first | exact Or.inl (by decide +kernel) | exact Or.inr (Or.inl (by decide +kernel)) | exact Or.inr (Or.inr (by decide +kernel))
theorem vi_law_box_1 : Vis (defScope s_law_box) "_law_k" := by first | exact Or.inl (by decide +kernel) | exact Or.inr (Or.inl (by decide +kernel)) | exact Or.inr (Or.inr (by decide +kernel))
theorem vi_law_box_2 : Vis (defScope s_law_box) "_law_cell" := by first | exact Or.inl (by decide +kernel) | exact Or.inr (Or.inl (by decide +kernel)) | exact Or.inr (Or.inr (by decide +kernel))
theorem vi_law_box_3 : Vis (defScope s_law_box) "_law_seed" := by first | exact Or.inl (by decide +kernel) | exact Or.inr (Or.inl (by decide +kernel)) | exact Or.inr (Or.inr (by decide +kernel))
theorem lo_law_box_2 : Loc (defScope s_law_box) "_law_cell" := by first | exact Or.inl (by decide +kernel) | exact Or.inr (by decide +kernel)
theorem lo_law_box_3 : Loc (defScope s_law_box) "_law_seed" := by first | exact Or.inl (by decide +kernel) | exact Or.inr (by decide +kernel)
theorem ok_law_box (T : Txt K mg base) : FnOk P w K mg base (L2.CX P w) 1 T.a_law_box T.d_law_box ["_law_script", "_law_k"] (spBox K) := by
  refine T.F_law_box.okX sc_law_box (fun vs H Q E h => ?_) (fun cdv A outer s H vs Q E hr h => ?_)
  · obtain ⟨p, ns, k, rfl, _⟩ := h
    rfl
  obtain ⟨p, ns, k, rfl, hS, hl, q⟩ := h
  refine ⟨_, (pss_cons (ps_set (i := 2) sc_law_box.nd rfl lo_law_box_2 (pe_op uo_add (pe_op uo_mul pe_int (uv 1 (hv := vi_law_box_1))) pe_int))
      (C8.pss_cut (ps_if (pt_cmpR uo_lt (uv 1 (hv := vi_law_box_1)) (pe_callB uk_len rfl T.z_len boot_len (pa_cons (uv 0 (hv := vi_law_box_0)) pa_nil)) (nomark _)) (pss_one (ps_set (i := 2) sc_law_box.nd rfl lo_law_box_2 (pe_ix ux_seq (uv 0 (hv := vi_law_box_0)) (uv 1 (hv := vi_law_box_1)) (fun _ _ => rfl)))) (pss_one (ps_if (pt_cmpR uo_gt (pe_callB uk_len rfl T.z_len boot_len (pa_cons (uv 0 (hv := vi_law_box_0)) pa_nil)) pe_int (nomark _)) (pss_one (ps_set (i := 2) sc_law_box.nd rfl lo_law_box_2 (pe_op uo_add (uv 2 (hv := vi_law_box_2)) (pe_op uo_mul (pe_op uo_mod (pe_ix ux_seq (uv 0 (hv := vi_law_box_0)) (pe_op uo_mod (uv 1 (hv := vi_law_box_1)) (pe_callB uk_len rfl T.z_len boot_len (pa_cons (uv 0 (hv := vi_law_box_0)) pa_nil))) (fun _ _ => rfl)) pe_int) pe_int)))) pss_nil)))
      (pss_cons (ps_set (i := 3) sc_law_box.nd rfl lo_law_box_3 (pe_op uo_add (pe_op uo_mod (pe_op uo_add (pe_op uo_mul (pe_op uo_mod (uv 2 (hv := vi_law_box_2)) pe_int) pe_int) (pe_op uo_mul pe_int (uv 1 (hv := vi_law_box_1)))) pe_int) pe_int))
      (pss_one (ps_ret (pe_lst (pa_cons (pe_ix ux_seq (pe_lst (pa_cons pe_int (pa_cons (uv 2 (hv := vi_law_box_2)) pa_nil))) (pe_callTy uk_int rfl T.z_int boot_int (pa_cons (pe_cmpR uo_ge (uv 2 (hv := vi_law_box_2)) (pe_op uo_pow pe_int pe_int) (nomark _)) pa_nil)) (fun _ _ => rfl)) (pa_cons (uv 3 (hv := vi_law_box_3)) (pa_cons pe_int pa_nil))))))))), ?_⟩
  walk_at "go"
  refine ⟨fun σ' H' => (∃ x : Int, σ' = [some (V.ref p), some (V.int k), some (V.int x), none]) ∧ H' = H, ?_, ?_⟩
  · walk_at "go"
    refine i_d (fun c => ?_) fun c => ?_
    · walk_at "go"
      have c' : k < ns.length := by
        rw [List.length_map] at c
        omega
      refine g_ixSq hS (at_ints c') ?_
      walk_at "go"
      exact ⟨⟨_, rfl⟩, rfl⟩
    · walk_at "go"
      refine i_d (fun c => ?_) fun c => ?_
      · walk_at "go"
        have hn : (0 : Int) < ((ns.map V.int).length : Nat) := c
        have e : ((k : Int).fmod ((ns.map V.int).length : Nat)) = ((k % ns.length : Nat) : Int) := by
          rw [Int.fmod_eq_emod_of_nonneg _ (by omega), List.length_map]
          rfl
        have c' : k % ns.length < ns.length := Nat.mod_lt _ (by rw [List.length_map] at hn; omega)
        refine g_ixSq hS (by rw [e]; exact at_ints c') ?_
        walk_at "go"
        exact ⟨⟨_, rfl⟩, rfl⟩
      · walk_at "go"
        exact ⟨⟨_, rfl⟩, rfl⟩
  · rintro σ' H' ⟨⟨x, rfl⟩, rfl⟩
    walk_at "go"
    refine g_new fun a ha => ?_
    have h1 := @upd_same H' a (.lst [V.int 0, V.int x])
    walk_at "go"
    have fin : ∀ v : Int, atI [V.int 0, V.int x] (b2z (decide ((10 : Int) ^ Int.toNat 18 ≤ x))) = some (.int v) → _ := fun _ _ => True.intro
    have ev : ∃ v : Int, atI [V.int 0, V.int x] (b2z (decide ((10 : Int) ^ Int.toNat 18 ≤ x))) = some (.int v) := by
      by_cases c : (10 : Int) ^ Int.toNat 18 ≤ x
      · rw [decide_eq_true c]
        exact ⟨x, rfl⟩
      · rw [decide_eq_false c]
        exact ⟨0, rfl⟩
    obtain ⟨v, ev⟩ := ev
    refine g_ixL h1 ev ?_
    walk_at "go"
    refine g_new fun b hb => ?_
    have e1 : Ex H' (upd H' a (.lst [V.int 0, V.int x])) := Ex.new ha
    exact q _ _ (e1.free hb) (e1.trans (Ex.new hb)) ⟨_, _, _, upd_same⟩
theorem vi_law_take_0 : Vis (defScope s_law_take) "_law_box_here" := by first | exact Or.inl (by decide +kernel) | exact Or.inr (Or.inl (by decide +kernel)) | exact Or.inr (Or.inr (by decide +kernel))
theorem vi_law_take_1 : Vis (defScope s_law_take) "_law_many" := by first | exact Or.inl (by decide +kernel) | exact Or.inr (Or.inl (by decide +kernel)) | exact Or.inr (Or.inr (by decide +kernel))
theorem vi_law_take_2 : Vis (defScope s_law_take) "_law_digit" := by first | exact Or.inl (by decide +kernel) | exact Or.inr (Or.inl (by decide +kernel)) | exact Or.inr (Or.inr (by decide +kernel))
theorem vi_law_take_3 : Vis (defScope s_law_take) "_law_one" := by first | exact Or.inl (by decide +kernel) | exact Or.inr (Or.inl (by decide +kernel)) | exact Or.inr (Or.inr (by decide +kernel))
theorem lo_law_take_2 : Loc (defScope s_law_take) "_law_digit" := by first | exact Or.inl (by decide +kernel) | exact Or.inr (by decide +kernel)
theorem lo_law_take_3 : Loc (defScope s_law_take) "_law_one" := by first | exact Or.inl (by decide +kernel) | exact Or.inr (by decide +kernel)
theorem ok_law_take (T : Txt K mg base) : FnOk P w K mg base (L2.CX P w) 1 T.a_law_take T.d_law_take ["_law_box_here", "_law_many"] spTake := by
  refine T.F_law_take.okX sc_law_take (fun vs H Q E h => ?_) (fun cdv A outer s H vs Q E hr h => ?_)
  · obtain ⟨p, m, rfl, _⟩ := h
    rfl
  obtain ⟨p, m, rfl, ⟨a, b, c, hp⟩, hm, hm2, q⟩ := h
  have hm0 : m ≠ 0 := by omega
  refine ⟨_, (pss_cons (ps_if (pt_cmpR uo_gt (pe_ix ux_seq (uv 0 (hv := vi_law_take_0)) pe_int (fun _ _ => rfl)) pe_int (nomark _)) (pss_cons (ps_set (i := 2) sc_law_take.nd rfl lo_law_take_2 (pe_op uo_mod (pe_ix ux_seq (uv 0 (hv := vi_law_take_0)) pe_int (fun _ _ => rfl)) (uv 1 (hv := vi_law_take_1))))
      (pss_cons (ps_asg (pe_op uo_fd (pe_ix ux_seq (uv 0 (hv := vi_law_take_0)) pe_int (fun _ _ => rfl)) (uv 1 (hv := vi_law_take_1))) (pg_sub (uv 0 (hv := vi_law_take_0)) pe_int set_list))
      (pss_one (ps_ret (uv 2 (hv := vi_law_take_2)))))) pss_nil)
      (pss_cons (ps_asg (pe_op uo_add (pe_ix ux_seq (uv 0 (hv := vi_law_take_0)) pe_int (fun _ _ => rfl)) pe_int) (pg_sub (uv 0 (hv := vi_law_take_0)) pe_int set_list))
      (pss_cons (ps_set (i := 3) sc_law_take.nd rfl lo_law_take_3 (pe_op uo_mod (pe_op uo_mul (pe_op uo_add (pe_ix ux_seq (uv 0 (hv := vi_law_take_0)) pe_int (fun _ _ => rfl)) (pe_op uo_mul pe_int (pe_ix ux_seq (uv 0 (hv := vi_law_take_0)) pe_int (fun _ _ => rfl)))) pe_int) pe_int))
      (pss_cons (ps_asg (pe_op uo_add (pe_op uo_mod (pe_op uo_add (pe_op uo_mul (uv 3 (hv := vi_law_take_3)) pe_int) pe_int) pe_int) pe_int) (pg_sub (uv 0 (hv := vi_law_take_0)) pe_int set_list))
      (pss_one (ps_ret (pe_op uo_mod (pe_op uo_fd (pe_op uo_add (pe_op uo_mul (uv 3 (hv := vi_law_take_3)) pe_int) (pe_ix ux_seq (uv 0 (hv := vi_law_take_0)) pe_int (fun _ _ => rfl))) pe_int) (uv 1 (hv := vi_law_take_1))))))))), ?_⟩
  walk_at "go"
  refine i_d (fun c1 => ?_) fun c1 => ?_
  · walk_at "go"
    refine g_i ?_ ⟨hm0, hm2⟩
    walk_at "go"
    refine g_setL hp (by rfl) ?_
    walk_at "go"
    exact q _ _ (fmod_pos hm).1 (fmod_pos hm).2 (But.upd (But.refl _ _)) ⟨_, _, _, upd_same⟩
  · walk_at "go"
    refine g_setL hp (by rfl) ?_
    have h1 : upd H p (.lst ([V.int a, V.int b, V.int c].set 2 (.int (c + 1)))) p = some (.lst [.int a, .int b, .int (c + 1)]) := upd_same
    walk_at "go"
    refine g_setL h1 (by rfl) ?_
    have h2 := @upd_same (upd H p (.lst ([V.int a, V.int b, V.int c].set 2 (.int (c + 1))))) p (.lst ([V.int a, V.int b, V.int (c + 1)].set 1 (.int ((((b + 104729 * (c + 1)) * 69623).fmod 2147483647 * 48271 + 30103).fmod 2147483629 + 1))))
    walk_at "go"
    exact q _ _ (fmod_pos hm).1 (fmod_pos hm).2 ((But.refl _ _).upd.upd) ⟨_, _, _, h2⟩
theorem vi_law_alike_0 : Vis (defScope s_law_alike) "_law_found" := by first | exact Or.inl (by decide +kernel) | exact Or.inr (Or.inl (by decide +kernel)) | exact Or.inr (Or.inr (by decide +kernel))
theorem vi_law_alike_1 : Vis (defScope s_law_alike) "_law_due" := by first | exact Or.inl (by decide +kernel) | exact Or.inr (Or.inl (by decide +kernel)) | exact Or.inr (Or.inr (by decide +kernel))
theorem vi_law_alike_2 : Vis (defScope s_law_alike) "_law_left" := by first | exact Or.inl (by decide +kernel) | exact Or.inr (Or.inl (by decide +kernel)) | exact Or.inr (Or.inr (by decide +kernel))
theorem vi_law_alike_3 : Vis (defScope s_law_alike) "_law_one" := by first | exact Or.inl (by decide +kernel) | exact Or.inr (Or.inl (by decide +kernel)) | exact Or.inr (Or.inr (by decide +kernel))
theorem vi_law_alike_4 : Vis (defScope s_law_alike) "_law_other" := by first | exact Or.inl (by decide +kernel) | exact Or.inr (Or.inl (by decide +kernel)) | exact Or.inr (Or.inr (by decide +kernel))
theorem lo_law_alike_2 : Loc (defScope s_law_alike) "_law_left" := by first | exact Or.inl (by decide +kernel) | exact Or.inr (by decide +kernel)
theorem lo_law_alike_3 : Loc (defScope s_law_alike) "_law_one" := by first | exact Or.inl (by decide +kernel) | exact Or.inr (by decide +kernel)
theorem lo_law_alike_4 : Loc (defScope s_law_alike) "_law_other" := by first | exact Or.inl (by decide +kernel) | exact Or.inr (by decide +kernel)
theorem ok_law_alike (T : Txt K mg base) : FnOk P w K mg base (L2.CX P w) 1 T.a_law_alike T.d_law_alike ["_law_found", "_law_due"] spAlike := by
  refine T.F_law_alike.okX sc_law_alike (fun vs H Q E h => ?_) (fun cdv A outer s H vs Q E hr h => ?_)
  · obtain ⟨_, _, _, rfl, _⟩ := h
    rfl
  obtain ⟨dd, v0, w0, rfl, rv, rw', hsz, q⟩ := h
  refine ⟨_, (pss_cons (ps_set (i := 2) sc_law_alike.nd rfl lo_law_alike_2 (pe_lst (pa_cons (pe_tup (pa_cons (uv 0 (hv := vi_law_alike_0)) (pa_cons (uv 1 (hv := vi_law_alike_1)) pa_nil))) pa_nil)))
      (pss_cons (ps_while (passes_of rfl) (pt_cmpR uo_gt (pe_callB uk_len rfl T.z_len boot_len (pa_cons (uv 2 (hv := vi_law_alike_2)) pa_nil)) pe_int (nomark _)) (pss_cons (ps_asg (pe_bm0 PySem.F.plainAttrs_list PySem.F.slot_list_pop PySem.F.type_list_pop mt_pop (uv 2 (hv := vi_law_alike_2))) (pg_tup rfl (pgs_cons (pg_name (i := 3) sc_law_alike.nd rfl lo_law_alike_3) (pgs_cons (pg_name (i := 4) sc_law_alike.nd rfl lo_law_alike_4) pgs_nil))))
      (pss_one (ps_if (ut (pe_callB uk_isT rfl T.z_isinstance boot_isinstance (pa_cons (uv 4 (hv := vi_law_alike_4)) (pa_cons (pe_tup (pa_cons (pe_bltn (v := .ty "tuple") rfl T.z_tuple boot_tuple rfl) (pa_cons (pe_bltn (v := .ty "list") rfl T.z_list boot_list rfl) pa_nil))) pa_nil)))) (pss_cons (ps_if (PW.pt (pw_or (pt_cmpR op_ne (pe_callB uk_is rfl T.z_isinstance boot_isinstance (pa_cons (uv 3 (hv := vi_law_alike_3)) (pa_cons (pe_bltn (v := .ty "tuple") rfl T.z_tuple boot_tuple rfl) pa_nil))) (pe_callB uk_is rfl T.z_isinstance boot_isinstance (pa_cons (uv 4 (hv := vi_law_alike_4)) (pa_cons (pe_bltn (v := .ty "tuple") rfl T.z_tuple boot_tuple rfl) pa_nil))) (nomark _)) (pw_or1 (pt_cmpR op_ne (pe_callB uk_is rfl T.z_isinstance boot_isinstance (pa_cons (uv 3 (hv := vi_law_alike_3)) (pa_cons (pe_bltn (v := .ty "list") rfl T.z_list boot_list rfl) pa_nil))) (pe_callB uk_is rfl T.z_isinstance boot_isinstance (pa_cons (uv 4 (hv := vi_law_alike_4)) (pa_cons (pe_bltn (v := .ty "list") rfl T.z_list boot_list rfl) pa_nil))) (nomark _))))) (pss_one (ps_ret pe_bl)) pss_nil)
      (pss_cons (ps_if (pt_cmpR op_ne (pe_callB uk_len rfl T.z_len boot_len (pa_cons (uv 3 (hv := vi_law_alike_3)) pa_nil)) (pe_callB uk_len rfl T.z_len boot_len (pa_cons (uv 4 (hv := vi_law_alike_4)) pa_nil)) (nomark _)) (pss_one (ps_ret pe_bl)) pss_nil)
      (pss_one (ps_expr (pe_bm PySem.F.plainAttrs_list PySem.F.slot_list_extend PySem.F.type_list_extend mt_extend (uv 2 (hv := vi_law_alike_2)) (pa_cons (pe_listZip rfl rfl T.z_list rfl T.z_zip (pa_cons (uv 3 (hv := vi_law_alike_3)) (pa_cons (uv 4 (hv := vi_law_alike_4)) pa_nil))) pa_nil)))))) (pss_one (ps_if (PW.pt (pw_or (ut (pe_callB uk_isT rfl T.z_isinstance boot_isinstance (pa_cons (uv 3 (hv := vi_law_alike_3)) (pa_cons (pe_tup (pa_cons (pe_bltn (v := .ty "tuple") rfl T.z_tuple boot_tuple rfl) (pa_cons (pe_bltn (v := .ty "list") rfl T.z_list boot_list rfl) pa_nil))) pa_nil)))) (pw_or1 (pt_cmpR op_ne (pe_callB uk_is rfl T.z_isinstance boot_isinstance (pa_cons (uv 3 (hv := vi_law_alike_3)) (pa_cons (pe_bltn (v := .ty "bool") rfl T.z_bool boot_bool rfl) pa_nil))) (pe_callB uk_is rfl T.z_isinstance boot_isinstance (pa_cons (uv 4 (hv := vi_law_alike_4)) (pa_cons (pe_bltn (v := .ty "bool") rfl T.z_bool boot_bool rfl) pa_nil))) (nomark _))))) (pss_one (ps_ret pe_bl)) (pss_one (ps_if (PW.pt (pw_or (pt_cmpR op_ne (pe_callB uk_is rfl T.z_isinstance boot_isinstance (pa_cons (uv 3 (hv := vi_law_alike_3)) (pa_cons (pe_bltn (v := .ty "int") rfl T.z_int boot_int rfl) pa_nil))) (pe_callB uk_is rfl T.z_isinstance boot_isinstance (pa_cons (uv 4 (hv := vi_law_alike_4)) (pa_cons (pe_bltn (v := .ty "int") rfl T.z_int boot_int rfl) pa_nil))) (nomark _)) (pw_or1 (pt_cmpR op_ne (uv 3 (hv := vi_law_alike_3)) (uv 4 (hv := vi_law_alike_4)) (nomark _))))) (pss_one (ps_ret pe_bl)) pss_nil))))))))
      (pss_one (ps_ret pe_bl)))), ?_⟩
  walk_at "go"
  refine g_new fun a ha => ?_
  walk_at "go"
  refine g_new fun l hl => ?_
  walk_at "go"
  have e0 : Ex H (upd H a (.tup [v0, w0])) := Ex.new ha
  have hl0 : H l = none := e0.free hl
  refine g_while (fun m σ H1 => ∃ o1 o2, σ = [some v0, some w0, some (.ref l), o1, o2] ∧ m ≤ 400000 ∧ Ex H H1 ∧ ∃ ts, H1 l = some (.lst ts) ∧ PrS H H1 m ts) _ ⟨none, none, rfl, by rw [← Nat.zero_add dd.size] at hsz; exact hsz, e0.trans (Ex.new hl), _, upd_same, PrS.snoc .nil ⟨a, v0, w0, rfl, Ex.new hl _ _ upd_same, rv, rw'⟩⟩ ?_
  rintro m σ H1 ⟨o1, o2, rfl, hm, e, ts, hts, hp⟩
  walk_at "go"
  refine i_d (fun c => g_wn ?_) fun c => ?_
  · cases hp with
    | nil => cases c
    | @snoc n ts d t hp r =>
      obtain ⟨a, x, y, rfl, ha, rx, ry⟩ := r
      walk_at "go"
      refine g_pop hts ?_
      have b2 : But l H1 (upd H1 l (.lst ts)) := (But.refl _ _).upd
      have h2 := b2.get hts ha (fun z => nomatch z)
      have e2 : Ex H (upd H1 l (.lst ts)) := e.at_new hl0
      have t2 : Tk H1 (upd H1 l (.lst ts)) := b2.tkl hts
      have l2 : upd H1 l (.lst ts) l = some (.lst ts) := upd_same
      refine g_tup2 h2 ?_
      walk_at "go"
      have szp := d.size_pos
      revert l2 e2 t2
      clear h2 b2
      generalize upd H1 l (.lst ts) = H2
      intro e2 t2 l2
      refine g_new fun p hp2 => ?_
      have e3 := e2.trans (Ex.new (o := .tup [.ty "tuple", .ty "list"]) hp2)
      have l3 := Ex.new (o := .tup [.ty "tuple", .ty "list"]) hp2 _ _ l2
      have t3 := t2.trans (Ex.new (o := .tup [.ty "tuple", .ty "list"]) hp2).tk
      walk_at "go"
      refine g_isTD (ry.ex e3) upd_same ?_
      revert e3 l3 t3
      generalize upd H2 p (.tup [.ty "tuple", .ty "list"]) = H3
      intro e3 l3 t3
      walk_at "go"
      refine i_b (fun k => ?_) fun k => ?_
      · obtain ⟨a1, b1, ds, xs, ys, rfl, rfl, rxs, rys, es, hb⟩ := D.open k rx ry
        have hb3 := both_ex e3 hb
        walk_at "go"
        refine g_isD (rx.ex e3) (kit_tup d) ?_
        walk_at "go"
        refine g_isD (ry.ex e3) (kit_tup d) ?_
        walk_at "go"
        refine g_isD (rx.ex e3) (kit_lst d) ?_
        walk_at "go"
        refine g_isD (ry.ex e3) (kit_lst d) ?_
        walk_at "go"
        refine g_len2a hb3 ?_
        walk_at "go"
        refine g_len2b hb3 ?_
        walk_at "go"
        refine i_neI (fun c => absurd (congrArg Int.ofNat (rxs.len2 rys)) c) fun _ => ?_
        walk_at "go"
        refine ⟨a1, b1, xs, ys, rfl, rxs.len2 rys, both_sq hb3, fun H4 z t4 e4 hz _ _ hz4 pz => ?_⟩
        have l4 := e4 _ _ l3
        have ln := sizes_len ds
        have ln2 := rxs.len
        have lp := hp.len
        walk_at "go"
        refine g_ext l4 hz4 (by rw [prz_len pz]; omega) ?_
        have b5 : But l H4 (upd H4 l (.lst (ts ++ t4.map V.ref))) := (But.refl _ _).upd
        have z := (PrS.ext rxs rys pz (hp.tk (t3.trans e4.tk))).tk (b5.tkl l4)
        walk_at "go"
        exact ⟨_, by omega, _, _, rfl, by omega, (e3.trans e4).at_new hl0, _, upd_same, z⟩
      · walk_at "go"
        refine g_new fun p hp2 => ?_
        have e4 := e3.trans (Ex.new (o := .tup [.ty "tuple", .ty "list"]) hp2)
        have l4 := Ex.new (o := .tup [.ty "tuple", .ty "list"]) hp2 _ _ l3
        have t4 := t3.trans (Ex.new (o := .tup [.ty "tuple", .ty "list"]) hp2).tk
        walk_at "go"
        refine g_isTD (rx.ex e4) upd_same ?_
        revert e4 l4 t4
        generalize upd H3 p (.tup [.ty "tuple", .ty "list"]) = H4
        intro e4 l4 t4
        walk_at "go"
        refine i_F k ?_
        walk_at "go"
        refine g_isD (rx.ex e4) (kit_bl d) ?_
        walk_at "go"
        refine g_isD (ry.ex e4) (kit_bl d) ?_
        walk_at "go"
        refine g_isD (rx.ex e4) (kit_int d) ?_
        walk_at "go"
        refine g_isD (ry.ex e4) (kit_int d) ?_
        walk_at "go"
        refine g_neD rx ry k ?_
        walk_at "go"
        exact ⟨_, by omega, _, _, rfl, by omega, e4, _, l4, hp.tk t4⟩
  · walk_at "go"
    exact q _ e
theorem vi_law_shared_0 : Vis (defScope s_law_shared) "_law_one" := by first | exact Or.inl (by decide +kernel) | exact Or.inr (Or.inl (by decide +kernel)) | exact Or.inr (Or.inr (by decide +kernel))
theorem vi_law_shared_1 : Vis (defScope s_law_shared) "_law_other" := by first | exact Or.inl (by decide +kernel) | exact Or.inr (Or.inl (by decide +kernel)) | exact Or.inr (Or.inr (by decide +kernel))
theorem ok_law_shared (T : Txt K mg base) : FnOk P w K mg base (L2.CX P w) 1 T.a_law_shared T.d_law_shared ["_law_one", "_law_other"] spGcd := by
  refine T.F_law_shared.okX sc_law_shared (fun vs H Q E h => ?_) (fun cdv A outer s H vs Q E hr h => ?_)
  · obtain ⟨a, b, rfl, _⟩ := h
    rfl
  obtain ⟨a, b, rfl, q⟩ := h
  refine ⟨_, (pss_cons (ps_while (passes_of rfl) (pt_cmpR op_ne (uv 1 (hv := vi_law_shared_1)) pe_int (nomark _)) (pss_one (ps_par (i := 0) (j := 1) rfl sc_law_shared.nd rfl rfl (by decide) rfl rfl (pa_cons (uv 1 (hv := vi_law_shared_1)) (pa_cons (pe_op uo_mod (uv 0 (hv := vi_law_shared_0)) (uv 1 (hv := vi_law_shared_1))) pa_nil)) rfl)))
      (pss_one (ps_ret (pe_callB uk_abs rfl T.z_abs boot_abs (pa_cons (uv 0 (hv := vi_law_shared_0)) pa_nil))))), ?_⟩
  refine g_seq (g_while (fun m σ H1 => ∃ x y : Int, σ = [some (.int x), some (.int y)] ∧ H1 = H ∧ Int.gcd x y = Int.gcd a b ∧ m = y.natAbs) _ ⟨a, b, rfl, rfl, rfl, rfl⟩ ?_)
  rintro m σ H1 ⟨x, y, rfl, rfl, hg, rfl⟩
  walk_at "go"
  refine i_neI (fun c => g_wn ?_) fun c => ?_
  · walk_at "go"
    exact ⟨_, fmod_less c, y, x.fmod y, rfl, rfl, (gcd_fmod x y).trans hg, rfl⟩
  · walk_at "go"
    subst c
    rw [Int.gcd_zero_right] at hg
    rw [hg]
    exact q
theorem vi_Poly_eq_0 : Vis (defScope s_Poly_eq) "self" := by first | exact Or.inl (by decide +kernel) | exact Or.inr (Or.inl (by decide +kernel)) | exact Or.inr (Or.inr (by decide +kernel))
theorem vi_Poly_eq_1 : Vis (defScope s_Poly_eq) "other" := by first | exact Or.inl (by decide +kernel) | exact Or.inr (Or.inl (by decide +kernel)) | exact Or.inr (Or.inr (by decide +kernel))
theorem ok_Poly_eq (T : Txt K mg base) : FnOk P w K mg base (L2.CX P w) 1 T.a_Poly_eq T.d_Poly_eq ["self", "other"] (spPoEq T.a_Poly) := by
  refine T.F_Poly_eq.okX sc_Poly_eq (fun vs H Q E h => ?_) (fun cdv A outer s H vs Q E hr h => ?_)
  · obtain ⟨_, _, _, _, rfl, _⟩ := h
    rfl
  obtain ⟨p, n, ts, y, rfl, ⟨dx, l, vs, hp, hl, rl⟩, hy⟩ := h
  refine ⟨_, (pss_one (ps_ret (pe_and (pe_callB (uk_isM T.oth_Poly T.cl_Poly) rfl T.z_isinstance boot_isinstance (pa_cons (uv 1 (hv := vi_Poly_eq_1)) (pa_cons (pe_glob (v := .ref T.a_Poly) rfl T.m_Poly rfl) pa_nil))) (pe_and (pe_cmpR op_eq (pe_fld (uv 0 (hv := vi_Poly_eq_0)) rfl) (pe_fld (uv 1 (hv := vi_Poly_eq_1)) rfl) (nomark _)) (pe_one (pe_cmpR (op_eqD hr.units) (pe_fld (uv 0 (hv := vi_Poly_eq_0)) rfl) (pe_fld (uv 1 (hv := vi_Poly_eq_1)) rfl) (nomark _))))))), ?_⟩
  walk_at "go"
  rcases hy with ⟨p2, m, us, rfl, ⟨dx2, l2, vs2, hp2, hl2, rl2⟩, q⟩ | ⟨⟨a, xs, rfl, ha⟩, q⟩
  · refine ⟨_, true, rfl, .inl ⟨_, _, _, rfl, hp2, rfl⟩, true, rfl, ?_⟩
    rw [if_pos rfl]
    walk_at "go"
    refine g_fldO hp T.cl_Poly T.na_Poly_boxes flPoB ?_
    walk_at "go"
    refine g_fldO hp2 T.cl_Poly T.na_Poly_boxes flPoB ?_
    walk_at "go"
    refine i_d (fun c => ?_) fun c => ?_
    · have c' : n = m := by injection c
      walk_at "go"
      refine g_fldO hp T.cl_Poly T.na_Poly_kept flPoK ?_
      walk_at "go"
      refine g_fldO hp2 T.cl_Poly T.na_Poly_kept flPoK ?_
      refine g_eqTps hl hl2 rl rl2 ?_
      have z := q H (Ex.refl _)
      have e : decide (n = m ∧ ts = us) = decide (ts = us) := by rw [decide_eq_decide]; exact ⟨fun z => z.2, fun z => ⟨c', z⟩⟩
      rw [e] at z
      exact z
    · have z := q H (Ex.refl _)
      rw [decide_eq_false (fun y => c (by rw [y.1]))] at z
      exact z
  · refine ⟨_, false, rfl, .inr (.inl ⟨a, xs, rfl, ha, rfl⟩), false, rfl, ?_⟩
    rw [if_neg Bool.false_ne_true]
    exact q _ (Ex.refl _)
theorem vi_Poly_len_0 : Vis (defScope s_Poly_len) "self" := by first | exact Or.inl (by decide +kernel) | exact Or.inr (Or.inl (by decide +kernel)) | exact Or.inr (Or.inr (by decide +kernel))
theorem ok_Poly_len (T : Txt K mg base) : FnOk P w K mg base (L2.CX P w) 1 T.a_Poly_len T.d_Poly_len ["self"] (spPoNum T.a_Poly fun ts => (ts.length : Nat)) := by
  refine T.F_Poly_len.okX sc_Poly_len (fun vs H Q E h => ?_) (fun cdv A outer s H vs Q E hr h => ?_)
  · obtain ⟨_, _, _, rfl, _⟩ := h
    rfl
  obtain ⟨p, n, ts, rfl, ⟨dx, l, vs, hp, hl, rl⟩, _, _, q⟩ := h
  refine ⟨_, (pss_one (ps_ret (pe_callB uk_len rfl T.z_len boot_len (pa_cons (pe_fld (uv 0 (hv := vi_Poly_len_0)) rfl) pa_nil)))), ?_⟩
  have lv : vs.length = ts.length := by rw [rl.len, List.length_map]
  walk_at "go"
  refine g_fldO hp T.cl_Poly T.na_Poly_kept flPoK ?_
  refine g_lenL hl ?_
  rw [lv]
  walk_at "go"
  exact q _ (Ex.refl _)
theorem vi_Poly_terms_0 : Vis (defScope s_Poly_terms) "self" := by first | exact Or.inl (by decide +kernel) | exact Or.inr (Or.inl (by decide +kernel)) | exact Or.inr (Or.inr (by decide +kernel))
theorem ok_Poly_terms (T : Txt K mg base) : FnOk P w K mg base (L2.CX P w) 1 T.a_Poly_terms T.d_Poly_terms ["self"] (spPoTerms T.a_Poly) := by
  refine T.F_Poly_terms.okX sc_Poly_terms (fun vs H Q E h => ?_) (fun cdv A outer s H vs Q E hr h => ?_)
  · obtain ⟨_, _, _, rfl, _⟩ := h
    rfl
  obtain ⟨p, n, ts, rfl, ⟨dx, l, vs, hp, hl, rl⟩, q⟩ := h
  refine ⟨_, (pss_one (ps_ret (pe_callTy uk_list rfl T.z_list boot_list (pa_cons (pe_fld (uv 0 (hv := vi_Poly_terms_0)) rfl) pa_nil)))), ?_⟩
  walk_at "go"
  refine g_fldO hp T.cl_Poly T.na_Poly_kept flPoK ?_
  refine g_listL hl fun t ht => ?_
  walk_at "go"
  exact q _ _ _ (Ex.new ht) ht upd_same (rl.ex (Ex.new ht))
theorem vi_Poly_degree_0 : Vis (defScope s_Poly_degree) "self" := by first | exact Or.inl (by decide +kernel) | exact Or.inr (Or.inl (by decide +kernel)) | exact Or.inr (Or.inr (by decide +kernel))
theorem ok_Poly_degree (T : Txt K mg base) : FnOk P w K mg base (L2.CX P w) 1 T.a_Poly_degree T.d_Poly_degree ["self"] (spPoNum T.a_Poly degP) := by
  refine T.F_Poly_degree.okX sc_Poly_degree (fun vs H Q E h => ?_) (fun cdv A outer s H vs Q E hr h => ?_)
  · obtain ⟨_, _, _, rfl, _⟩ := h
    rfl
  obtain ⟨p, n, ts, rfl, ⟨dx, l, vs, hp, hl, rl⟩, lt, le, q⟩ := h
  refine ⟨_, (pss_one (ps_ret (pe_maxD hr.units rfl rfl T.z_max (pa_cons (pe_lc (own := [("exponents", 1), ("number", 2)]) (g := gTup K 2 (gCons (gName 1) (gCons (gName 2) gNil))) rfl sc_Poly_degree.nd (ui_seq (pe_fld (uv 0 (hv := vi_Poly_degree_0)) rfl)) (blkOk_by (own := [("exponents", 1), ("number", 2)]) (N := N_Poly_degree) (sc := defScope s_Poly_degree) (by decide +kernel)) (fun _ _ _ _ _ => (pg_tup rfl (pgs_cons (pg_name (i := 1) sc_Poly_degree.nd rfl (by first | exact Or.inl rfl | exact Or.inr rfl)) (pgs_cons (pg_name (i := 2) sc_Poly_degree.nd rfl (by first | exact Or.inl rfl | exact Or.inr rfl)) pgs_nil)))) (fun _ _ _ _ _ => pts_nil) (fun _ _ _ _ _ => (pe_callB (cr_sumT rfl) rfl T.z_sum boot_sum (pa_cons (uv 1) pa_nil)))) pa_nil) pe_int))), ?_⟩
  have lv : vs.length = ts.length := by rw [rl.len, List.length_map]
  walk_at "go"
  refine g_maxD ?_
  walk_at "go"
  refine .inl ?_
  refine g_fld ?_
  walk_at "go"
  refine g_fldO hp T.cl_Poly T.na_Poly_kept flPoK ?_
  refine ⟨l, rfl, ⟨_, sqL hl⟩, fun D hD => ?_⟩
  refine lc_mapE walk_list (fun j _ v => ∃ t, ts[j]? = some t ∧ v = .int t.1.sum) (by omega) hD (fun _ _ _ _ _ r => r) (fun H2 e2 => sqL (e2 _ _ hl)) ?_ ?_
  · rintro j y H2 H3 P N hj e2 ⟨rfl, hy⟩ k
    obtain ⟨dd, ed, rd⟩ := rl.get hy
    rw [List.getElem?_map] at ed
    cases ct : ts[j]? with
    | none => rw [ct] at ed; cases ed
    | some t =>
    rw [ct] at ed
    cases ed
    obtain ⟨ya, pa, qa, rfl, h1, h2, h3⟩ := tp_at (rd.ex e2)
    refine g_tup2 h1 ?_
    walk_at "go"
    refine ⟨rfl, ?_⟩
    walk_at "go"
    refine g_sumT h2 ?_
    exact k _ _ (Ex.refl _) ⟨t, ct, rfl⟩
  intro H1 acc e1 hacc hla hr2
  have ea : acc = (ts.map fun t => t.1.sum).map V.int := by
    refine List.ext_getElem? fun j => ?_
    rw [List.map_map, List.getElem?_map]
    cases c : acc[j]? with
    | none =>
      have := List.getElem?_eq_none_iff.1 c
      rw [List.getElem?_eq_none (by omega)]
      rfl
    | some v =>
      obtain ⟨x, hx, rfl⟩ := hr2 j v c
      rw [hx]
      rfl
  subst ea
  walk_at "go"
  refine ⟨D, ts.map fun t => t.1.sum, rfl, sqL hacc, ?_⟩
  exact q _ e1
theorem vi_law_lowest_0 : Vis (defScope s_law_lowest) "_law_upper" := by first | exact Or.inl (by decide +kernel) | exact Or.inr (Or.inl (by decide +kernel)) | exact Or.inr (Or.inr (by decide +kernel))
theorem vi_law_lowest_1 : Vis (defScope s_law_lowest) "_law_lower" := by first | exact Or.inl (by decide +kernel) | exact Or.inr (Or.inl (by decide +kernel)) | exact Or.inr (Or.inr (by decide +kernel))
theorem vi_law_lowest_2 : Vis (defScope s_law_lowest) "_law_part" := by first | exact Or.inl (by decide +kernel) | exact Or.inr (Or.inl (by decide +kernel)) | exact Or.inr (Or.inr (by decide +kernel))
theorem lo_law_lowest_2 : Loc (defScope s_law_lowest) "_law_part" := by first | exact Or.inl (by decide +kernel) | exact Or.inr (by decide +kernel)
theorem ok_law_lowest (T : Txt K mg base) : FnOk P w K mg base (L2.CX P w) 2 T.a_law_lowest T.d_law_lowest ["_law_upper", "_law_lower"] spFracW := by
  refine T.F_law_lowest.okX sc_law_lowest (fun vs H Q E h => ?_) (fun cdv A outer s H vs Q E hr h => ?_)
  · obtain ⟨_, _, rfl, _⟩ := h
    rfl
  obtain ⟨u, l, rfl, l0, bu, bl, q⟩ := h
  refine ⟨_, (pss_cons (ps_set (i := 2) sc_law_lowest.nd rfl lo_law_lowest_2 (pe_callB (uk_max2 rfl) rfl T.z_max boot_max (pa_cons pe_int (pa_cons (pe_callD (ok_law_shared T) (hr.mono (by decide)) rfl T.m_law_shared T.F_law_shared.kp T.b_law_shared .nil (fun σ => passAt (takes_of rfl rfl rfl rfl) σ) (pa_cons (uv 0 (hv := vi_law_lowest_0)) (pa_cons (uv 1 (hv := vi_law_lowest_1)) pa_nil))) pa_nil))))
      (pss_one (ps_ret (pe_tup (pa_cons (pe_op uo_fdW (uv 0 (hv := vi_law_lowest_0)) (uv 2 (hv := vi_law_lowest_2))) (pa_cons (pe_op uo_fdW (uv 1 (hv := vi_law_lowest_1)) (uv 2 (hv := vi_law_lowest_2))) pa_nil)))))), ?_⟩
  walk_at "go"
  refine ⟨_, _, rfl, ?_⟩
  walk_at "go"
  have e0 : l ≠ 0 := by omega
  rw [max_fpt l0]
  have cu : CFdW u (fpt u l) := bu.fdW (fpt_ne e0)
  have cl : CFdW l (fpt u l) := bl.fdW (fpt_ne e0)
  walk_at "go"
  exact g_new q
theorem vi_law_contrary_0 : Vis (defScope s_law_contrary) "_law_box_here" := by first | exact Or.inl (by decide +kernel) | exact Or.inr (Or.inl (by decide +kernel)) | exact Or.inr (Or.inr (by decide +kernel))
theorem vi_law_contrary_1 : Vis (defScope s_law_contrary) "_law_own" := by first | exact Or.inl (by decide +kernel) | exact Or.inr (Or.inl (by decide +kernel)) | exact Or.inr (Or.inr (by decide +kernel))
theorem vi_law_contrary_2 : Vis (defScope s_law_contrary) "_law_found" := by first | exact Or.inl (by decide +kernel) | exact Or.inr (Or.inl (by decide +kernel)) | exact Or.inr (Or.inr (by decide +kernel))
theorem vi_law_contrary_3 : Vis (defScope s_law_contrary) "_law_exponents_here" := by first | exact Or.inl (by decide +kernel) | exact Or.inr (Or.inl (by decide +kernel)) | exact Or.inr (Or.inr (by decide +kernel))
theorem vi_law_contrary_4 : Vis (defScope s_law_contrary) "_law_number_here" := by first | exact Or.inl (by decide +kernel) | exact Or.inr (Or.inl (by decide +kernel)) | exact Or.inr (Or.inr (by decide +kernel))
theorem vi_law_contrary_5 : Vis (defScope s_law_contrary) "_law_turn" := by first | exact Or.inl (by decide +kernel) | exact Or.inr (Or.inl (by decide +kernel)) | exact Or.inr (Or.inr (by decide +kernel))
theorem lo_law_contrary_2 : Loc (defScope s_law_contrary) "_law_found" := by first | exact Or.inl (by decide +kernel) | exact Or.inr (by decide +kernel)
theorem lo_law_contrary_3 : Loc (defScope s_law_contrary) "_law_exponents_here" := by first | exact Or.inl (by decide +kernel) | exact Or.inr (by decide +kernel)
theorem lo_law_contrary_4 : Loc (defScope s_law_contrary) "_law_number_here" := by first | exact Or.inl (by decide +kernel) | exact Or.inr (by decide +kernel)
theorem lo_law_contrary_5 : Loc (defScope s_law_contrary) "_law_turn" := by first | exact Or.inl (by decide +kernel) | exact Or.inr (by decide +kernel)
theorem ok_law_contrary (T : Txt K mg base) : FnOk P w K mg base (L2.CX P w) 2 T.a_law_contrary T.d_law_contrary ["_law_box_here", "_law_own"] spContr := by
  refine T.F_law_contrary.okX sc_law_contrary (fun vs H Q E h => ?_) (fun cdv A outer s H vs Q E hr h => ?_)
  · obtain ⟨_, _, _, _, _, _, rfl, _⟩ := h
    rfl
  obtain ⟨p, l, us, ts, b, k, rfl, hb, hl, ru, dr, q⟩ := h
  refine ⟨_, (pss_cons (ps_set (i := 2) sc_law_contrary.nd rfl lo_law_contrary_2 (pe_callTy uk_list rfl T.z_list boot_list (pa_cons (uv 1 (hv := vi_law_contrary_1)) pa_nil)))
      (pss_cons (ps_if (pt_cmpR (op_neD hr.units) (uv 2 (hv := vi_law_contrary_2)) (pe_lst pa_nil) (nomark _)) (pss_cons (ps_asg (pe_ix ux_seq (uv 2 (hv := vi_law_contrary_2)) (pe_callD (ok_law_take T) (hr.mono (by decide)) rfl T.m_law_take T.F_law_take.kp T.b_law_take .nil (fun σ => passAt (takes_of rfl rfl rfl rfl) σ) (pa_cons (uv 0 (hv := vi_law_contrary_0)) (pa_cons (pe_callB uk_len rfl T.z_len boot_len (pa_cons (uv 2 (hv := vi_law_contrary_2)) pa_nil)) pa_nil))) (fun _ _ => rfl)) (pg_tup rfl (pgs_cons (pg_name (i := 3) sc_law_contrary.nd rfl lo_law_contrary_3) (pgs_cons (pg_name (i := 4) sc_law_contrary.nd rfl lo_law_contrary_4) pgs_nil))))
      (pss_cons (ps_set (i := 2) sc_law_contrary.nd rfl lo_law_contrary_2 (pe_op uo_add (uv 2 (hv := vi_law_contrary_2)) (pe_lst (pa_cons (pe_tup (pa_cons (uv 3 (hv := vi_law_contrary_3)) (pa_cons (pe_tup (pa_cons (pe_op uo_sub pe_int (pe_ix ux_seq (uv 4 (hv := vi_law_contrary_4)) pe_int (fun _ _ => rfl))) (pa_cons (pe_ix ux_seq (uv 4 (hv := vi_law_contrary_4)) pe_int (fun _ _ => rfl)) pa_nil))) pa_nil))) (pa_cons (pe_tup (pa_cons (uv 3 (hv := vi_law_contrary_3)) (pa_cons (uv 4 (hv := vi_law_contrary_4)) pa_nil))) (pa_cons (pe_tup (pa_cons (uv 3 (hv := vi_law_contrary_3)) (pa_cons (pe_tup (pa_cons pe_int (pa_cons pe_int pa_nil))) pa_nil))) pa_nil))))))
      (pss_cons (ps_set (i := 5) sc_law_contrary.nd rfl lo_law_contrary_5 (pe_callD (ok_law_take T) (hr.mono (by decide)) rfl T.m_law_take T.F_law_take.kp T.b_law_take .nil (fun σ => passAt (takes_of rfl rfl rfl rfl) σ) (pa_cons (uv 0 (hv := vi_law_contrary_0)) (pa_cons (pe_callB uk_len rfl T.z_len boot_len (pa_cons (uv 2 (hv := vi_law_contrary_2)) pa_nil)) pa_nil))))
      (pss_one (ps_set (i := 2) sc_law_contrary.nd rfl lo_law_contrary_2 (pe_op uo_add (pe_slice us_sl (uv 2 (hv := vi_law_contrary_2)) (po_some (uv 5 (hv := vi_law_contrary_5))) po_none) (pe_slice us_sl (uv 2 (hv := vi_law_contrary_2)) po_none (po_some (uv 5 (hv := vi_law_contrary_5)))))))))) pss_nil)
      (pss_one (ps_ret (uv 2 (hv := vi_law_contrary_2)))))), ?_⟩
  have lu : us.length = ts.length := by rw [ru.len, List.length_map]
  have l12 := dr.len
  walk_at "go"
  refine g_listL hl fun F hF => ?_
  have eF : But p H (upd H F (.lst us)) := (Ex.new hF).but p
  have nF := hb.ne hF
  have bF : Box (upd H F (.lst us)) p := hb.ex (Ex.new hF)
  have hF1 := @upd_same H F (.lst us)
  have ru1 := ru.ex (Ex.new hF (o := .lst us))
  revert eF bF hF1 ru1
  generalize upd H F (.lst us) = H1
  intro eF bF hF1 ru1
  walk_at "go"
  refine g_new fun z hz => ?_
  have e2 : Ex H1 (upd H1 z (.lst [])) := Ex.new hz
  refine g_neNil (e2 _ _ hF1) upd_same (dp_reps (fun a v r => rep_dpok r (tp_sig a) (Nat.le_trans (tp_dep a) (by decide))) (ru1.ex e2)) ?_
  have hF2 := e2 _ _ hF1
  have ru2 := ru1.ex e2
  have b2 : But p H (upd H1 z (.lst [])) := eF.trans (e2.but p)
  have bx2 := bF.ex e2
  revert hF2 ru2 b2 bx2
  generalize upd H1 z (.lst []) = H2
  intro hF2 ru2 b2 bx2
  walk_at "go"
  cases cu : us.isEmpty with
  | true =>
    have ue : us = [] := List.isEmpty_iff.mp cu
    have te : ts = [] := List.length_eq_zero_iff.mp (by rw [← lu, ue]; rfl)
    refine (if_neg (by decide)).mpr ?_
    walk_at "go"
    exact q F us [] H2 b2 bx2 hF2 (by rw [te] at ru2; exact ru2) (.inl ⟨rfl, te⟩)
  | false =>
  refine (if_pos (by decide)).mpr ?_
  have un : 0 < us.length := by
    cases us with
    | nil => cases cu
    | cons _ _ => exact Nat.succ_pos _
  walk_at "go"
  refine ⟨p, _, rfl, bx2, by omega, ?_, fun d H3 d0 d1 b3 bx3 => ?_⟩
  · rw [Int.natAbs_natCast]
    exact (Nat.log2_lt (by omega)).2 (Nat.lt_of_le_of_lt (show us.length ≤ 2 ^ 10 by omega) (Nat.pow_lt_pow_right (by decide) (by decide)))
  have hF3 : H3 F = some (.lst us) := b3 _ _ nF hF2
  obtain ⟨vd, hvd⟩ : ∃ v, us[d.toNat]? = some v := ⟨_, List.getElem?_eq_getElem (by omega)⟩
  have ed : atI us d = some vd := by
    have z := atI_nat hvd
    rw [show ((d.toNat : Nat) : Int) = d by omega] at z
    exact z
  obtain ⟨dd, e1, rd⟩ := ru2.get hvd
  rw [List.getElem?_map] at e1
  cases ct : ts[d.toNat]? with
  | none => rw [ct] at e1; cases e1
  | some t =>
  rw [ct] at e1
  cases e1
  have t23 := bx2.tk b3
  have ru3 := ru2.tk t23 (tps_hard ts)
  have rd3 := rd.tk t23 (tp_hard t)
  obtain ⟨ta, tp, tq, rfl, hta, htp, htq⟩ := tp_at rd3
  refine g_ixL hF3 ed ?_
  walk_at "go"
  refine g_tup2 hta ?_
  walk_at "go"
  refine ⟨by show 2 ≤ sizeLine; decide, fun n1 hn1 => ?_⟩
  obtain ⟨H4, eq4, e4, h4⟩ := nw_o (.tup [.int (0 - t.2.1), .int t.2.2]) hn1
  rw [eq4]
  walk_at "go"
  refine ⟨by show 2 ≤ sizeLine; decide, fun n2 hn2 => ?_⟩
  obtain ⟨H5, eq5, e5, h5⟩ := nw_o (.tup [.ref tp, .ref n1]) hn2
  rw [eq5]
  walk_at "go"
  refine ⟨by show 2 ≤ sizeLine; decide, fun n3 hn3 => ?_⟩
  obtain ⟨H6, eq6, e6, h6⟩ := nw_o (.tup [.ref tp, .ref tq]) hn3
  rw [eq6]
  walk_at "go"
  refine ⟨by show 2 ≤ sizeLine; decide, fun n4 hn4 => ?_⟩
  obtain ⟨H7, eq7, e7, h7⟩ := nw_o (.tup [.int 0, .int 1]) hn4
  rw [eq7]
  walk_at "go"
  refine ⟨by show 2 ≤ sizeLine; decide, fun n5 hn5 => ?_⟩
  obtain ⟨H8, eq8, e8, h8⟩ := nw_o (.tup [.ref tp, .ref n4]) hn5
  rw [eq8]
  walk_at "go"
  refine ⟨by show 3 ≤ sizeLine; decide, fun n6 hn6 => ?_⟩
  obtain ⟨H9, eq9, e9, h9⟩ := nw_o (.lst [.ref n2, .ref n3, .ref n5]) hn6
  rw [eq9]
  have e39 : Ex H3 H9 := (((((e4.trans e5).trans e6).trans e7).trans e8).trans e9)
  have lz : (us ++ [V.ref n2, .ref n3, .ref n5]).length = ts.length + 3 := by rw [List.length_append, lu]; rfl
  walk_at "go"
  refine g_catL (e39 _ _ hF3) h9 (by rw [lu]; show ts.length + 3 ≤ 1000000; omega) fun n7 hn7 => ?_
  obtain ⟨H10, eq10, e10, h10⟩ := nw_o (.lst (us ++ [.ref n2, .ref n3, .ref n5])) hn7
  rw [eq10]
  have e310 := e39.trans e10
  have rz : Reps H10 ((ts ++ [(t.1, negF t.2), t, (t.1, (0, 1))]).map tpD) (us ++ [.ref n2, .ref n3, .ref n5]) := by
    rw [List.map_append]
    refine (ru3.ex e310).append ?_
    have x4 := ((((e5.trans e6).trans e7).trans e8).trans e9).trans e10
    have x5 := (((e6.trans e7).trans e8).trans e9).trans e10
    have x6 := ((e7.trans e8).trans e9).trans e10
    have x7 := (e8.trans e9).trans e10
    have x8 := e9.trans e10
    exact ⟨_, _, rfl, Rep.tp (x5 _ _ h5) (e310 _ _ htp) (x4 _ _ h4), _, _, rfl, Rep.tp (x6 _ _ h6) (e310 _ _ htp) (e310 _ _ htq), _, _, rfl, Rep.tp (x8 _ _ h8) (e310 _ _ htp) (x7 _ _ h7), rfl⟩
  have b10 : But p H H10 := (b2.trans b3).trans (e310.but p)
  have bx10 := bx3.ex e310
  generalize us ++ [V.ref n2, .ref n3, .ref n5] = zs at *
  walk_at "go"
  refine ⟨p, _, rfl, bx10, by omega, ?_, fun k' H11 k0 k1 b11 bx11 => ?_⟩
  · rw [Int.natAbs_natCast]
    exact (Nat.log2_lt (by omega)).2 (Nat.lt_of_le_of_lt (show zs.length ≤ 2 ^ 10 by omega) (Nat.pow_lt_pow_right (by decide) (by decide)))
  have nz : n7 ≠ p := bx10.neL h10 (fun x hx n z => by
    obtain ⟨i, hi⟩ := List.mem_iff_getElem?.mp hx
    obtain ⟨d', hd, r⟩ := rz.get hi
    rw [List.getElem?_map] at hd
    cases c : (ts ++ [(t.1, negF t.2), t, (t.1, (0, 1))])[i]? with
    | none => rw [c] at hd; cases hd
    | some t' =>
      rw [c] at hd
      cases hd
      obtain ⟨a, _, _, rfl, _⟩ := tp_at r
      cases z)
  have h11 := b11 _ _ nz h10
  have rz11 := rz.tk (bx10.tk b11) (tps_hard _)
  obtain ⟨cd, ck⟩ := cutV_dt zs (k := k') k0 (by omega)
  walk_at "go"
  refine g_slLU h11 fun n8 hn8 => ?_
  rw [cd]
  obtain ⟨H12, eq12, e12, h12⟩ := nw_o (.lst (zs.drop k'.toNat)) hn8
  rw [eq12]
  walk_at "go"
  refine g_slLU (e12 _ _ h11) fun n9 hn9 => ?_
  rw [ck]
  obtain ⟨H13, eq13, e13, h13⟩ := nw_o (.lst (zs.take k'.toNat)) hn9
  rw [eq13]
  walk_at "go"
  refine g_catL (e13 _ _ h12) h13 (by rw [List.length_drop, List.length_take]; omega) fun n10 hn10 => ?_
  obtain ⟨H14, eq14, e14, h14⟩ := nw_o (.lst (zs.drop k'.toNat ++ zs.take k'.toNat)) hn10
  rw [eq14]
  walk_at "go"
  have e1114 := (e12.trans e13).trans e14
  have rw14 := rz11.ex e1114
  refine q n10 _ (contrP ts d.toNat k'.toNat) H14 ((b10.trans b11).trans (e1114.but p)) (bx11.ex e1114) h14 ?_ (.inr ⟨_, _, (by omega), rfl⟩)
  have ec : contrP ts d.toNat k'.toNat = ((ts ++ [(t.1, negF t.2), t, (t.1, (0, 1))]).drop k'.toNat) ++ ((ts ++ [(t.1, negF t.2), t, (t.1, (0, 1))]).take k'.toNat) := by unfold contrP; rw [ct]
  rw [ec, List.map_append, List.map_drop, List.map_take]
  exact (rw14.dropN k'.toNat).append (rw14.take k'.toNat)
theorem vi_fraction_of_0 : Vis (defScope s_fraction_of) "upper" := by first | exact Or.inl (by decide +kernel) | exact Or.inr (Or.inl (by decide +kernel)) | exact Or.inr (Or.inr (by decide +kernel))
theorem vi_fraction_of_1 : Vis (defScope s_fraction_of) "lower" := by first | exact Or.inl (by decide +kernel) | exact Or.inr (Or.inl (by decide +kernel)) | exact Or.inr (Or.inr (by decide +kernel))
theorem vi_fraction_of_2 : Vis (defScope s_fraction_of) "part" := by first | exact Or.inl (by decide +kernel) | exact Or.inr (Or.inl (by decide +kernel)) | exact Or.inr (Or.inr (by decide +kernel))
theorem lo_fraction_of_2 : Loc (defScope s_fraction_of) "part" := by first | exact Or.inl (by decide +kernel) | exact Or.inr (by decide +kernel)
theorem ok_fraction_of (T : Txt K mg base) : FnOk P w K mg base (L2.CX P w) 3 T.a_fraction_of T.d_fraction_of ["upper", "lower"] spFracW := by
  refine T.F_fraction_of.ok sc_fraction_of (fun vs H Q E h => ?_) (fun cdv A outer s H vs Q E hr h => ?_)
  · obtain ⟨a, b, rfl, _⟩ := h
    rfl
  obtain ⟨u, l, rfl, l0, bu, bl, q⟩ := h
  refine ⟨_, (pss_cons (ps_if (pt_cmpR op_eq (uv 1 (hv := vi_fraction_of_1)) pe_int (nomark _)) (pss_one (ps_raise rfl (takes_of rfl rfl rfl rfl) (pmk_x0 PySem.F.excBase_ZeroDivisionError T.x_Nought T.i_Nought T.t_Nought (ok_init_Nought T T.z_ZeroDivisionError) (hr.mono (by decide)) T.bI_Nought passL T.m_Nought rfl))) pss_nil)
      (pss_cons (ps_set (i := 2) sc_fraction_of.nd rfl lo_fraction_of_2 (pe_callD (ok_common_part T) (hr.mono (by decide)) rfl T.m_common_part T.F_common_part.kp T.b_common_part .nil (fun σ => passAt (takes_of rfl rfl rfl rfl) σ) (pa_cons (uv 0 (hv := vi_fraction_of_0)) (pa_cons (uv 1 (hv := vi_fraction_of_1)) pa_nil))))
      (pss_cons (ps_if (pt_cmpR uo_lt (uv 1 (hv := vi_fraction_of_1)) pe_int (nomark _)) (pss_one (ps_set (i := 2) sc_fraction_of.nd rfl lo_fraction_of_2 (pe_op uo_sub pe_int (uv 2 (hv := vi_fraction_of_2))))) pss_nil)
      (pss_one (ps_ret (pe_tup (pa_cons (pe_op uo_fdW (uv 0 (hv := vi_fraction_of_0)) (uv 2 (hv := vi_fraction_of_2))) (pa_cons (pe_op uo_fdW (uv 1 (hv := vi_fraction_of_1)) (uv 2 (hv := vi_fraction_of_2))) pa_nil)))))))), ?_⟩
  walk_at "go"
  refine i_eqI (fun c => absurd c (by omega)) fun c => ?_
  walk_at "go"
  refine ⟨_, _, rfl, ?_⟩
  have gn : ((Int.gcd u l : Nat) : Int) ≠ 0 := by
    have := Int.gcd_pos_of_ne_zero_right u c
    omega
  have c1 : CFdW u ((Int.gcd u l : Nat) : Int) := bu.fdW gn
  have c2 : CFdW l ((Int.gcd u l : Nat) : Int) := bl.fdW gn
  rw [lowF_eq l0] at q
  walk_at "go"
  refine i_d (fun k => absurd k (by omega)) fun k => ?_
  walk_at "go"
  exact g_new q
theorem vi_law_plus_0 : Vis (defScope s_law_plus) "_law_one" := by first | exact Or.inl (by decide +kernel) | exact Or.inr (Or.inl (by decide +kernel)) | exact Or.inr (Or.inr (by decide +kernel))
theorem vi_law_plus_1 : Vis (defScope s_law_plus) "_law_other" := by first | exact Or.inl (by decide +kernel) | exact Or.inr (Or.inl (by decide +kernel)) | exact Or.inr (Or.inr (by decide +kernel))
theorem ok_law_plus (T : Txt K mg base) : FnOk P w K mg base (L2.CX P w) 3 T.a_law_plus T.d_law_plus ["_law_one", "_law_other"] (spArF addF) := by
  refine T.F_law_plus.okX sc_law_plus (fun vs H Q E h => ?_) (fun cdv A outer s H vs Q E hr h => ?_)
  · obtain ⟨_, _, _, _, rfl, _⟩ := h
    rfl
  obtain ⟨p, r, f, g, rfl, hp, hq, f0, g0, bf1, bf2, bg1, bg2, q⟩ := h
  refine ⟨_, (pss_one (ps_ret (pe_callD (ok_law_lowest T) (hr.mono (by decide)) rfl T.m_law_lowest T.F_law_lowest.kp T.b_law_lowest .nil (fun σ => passAt (takes_of rfl rfl rfl rfl) σ) (pa_cons (pe_op uo_add (pe_op uo_mul (pe_ix ux_seq (uv 0 (hv := vi_law_plus_0)) pe_int (fun _ _ => rfl)) (pe_ix ux_seq (uv 1 (hv := vi_law_plus_1)) pe_int (fun _ _ => rfl))) (pe_op uo_mul (pe_ix ux_seq (uv 1 (hv := vi_law_plus_1)) pe_int (fun _ _ => rfl)) (pe_ix ux_seq (uv 0 (hv := vi_law_plus_0)) pe_int (fun _ _ => rfl)))) (pa_cons (pe_op uo_mul (pe_ix ux_seq (uv 0 (hv := vi_law_plus_0)) pe_int (fun _ _ => rfl)) (pe_ix ux_seq (uv 1 (hv := vi_law_plus_1)) pe_int (fun _ _ => rfl))) pa_nil))))), ?_⟩
  have m0 := bf1.cmW bg1
  have m1 := bf1.cmW bg2
  have m2 := bg1.cmW bf2
  have m3 := bf2.cmW bg2
  have pos : 0 < f.2 * g.2 := Int.mul_pos f0 g0
  have bl := bf2.mul bg2
  walk_at "go"
  refine ⟨_, _, rfl, pos, ((bf1.mul bg2).add (bg1.mul bf2)).le, bl.le, fun t ht => ?_⟩
  exact q t _ (Ex.new ht) upd_same
theorem vi_law_by_0 : Vis (defScope s_law_by) "_law_one" := by first | exact Or.inl (by decide +kernel) | exact Or.inr (Or.inl (by decide +kernel)) | exact Or.inr (Or.inr (by decide +kernel))
theorem vi_law_by_1 : Vis (defScope s_law_by) "_law_other" := by first | exact Or.inl (by decide +kernel) | exact Or.inr (Or.inl (by decide +kernel)) | exact Or.inr (Or.inr (by decide +kernel))
theorem ok_law_by (T : Txt K mg base) : FnOk P w K mg base (L2.CX P w) 3 T.a_law_by T.d_law_by ["_law_one", "_law_other"] (spArF mulF) := by
  refine T.F_law_by.okX sc_law_by (fun vs H Q E h => ?_) (fun cdv A outer s H vs Q E hr h => ?_)
  · obtain ⟨_, _, _, _, rfl, _⟩ := h
    rfl
  obtain ⟨p, r, f, g, rfl, hp, hq, f0, g0, bf1, bf2, bg1, bg2, q⟩ := h
  refine ⟨_, (pss_one (ps_ret (pe_callD (ok_law_lowest T) (hr.mono (by decide)) rfl T.m_law_lowest T.F_law_lowest.kp T.b_law_lowest .nil (fun σ => passAt (takes_of rfl rfl rfl rfl) σ) (pa_cons (pe_op uo_mul (pe_ix ux_seq (uv 0 (hv := vi_law_by_0)) pe_int (fun _ _ => rfl)) (pe_ix ux_seq (uv 1 (hv := vi_law_by_1)) pe_int (fun _ _ => rfl))) (pa_cons (pe_op uo_mul (pe_ix ux_seq (uv 0 (hv := vi_law_by_0)) pe_int (fun _ _ => rfl)) (pe_ix ux_seq (uv 1 (hv := vi_law_by_1)) pe_int (fun _ _ => rfl))) pa_nil))))), ?_⟩
  have m0 := bf1.cmW bg1
  have m1 := bf1.cmW bg2
  have m2 := bg1.cmW bf2
  have m3 := bf2.cmW bg2
  have pos : 0 < f.2 * g.2 := Int.mul_pos f0 g0
  have bl := bf2.mul bg2
  walk_at "go"
  refine ⟨_, _, rfl, pos, (bf1.mul bg1).le, bl.le, fun t ht => ?_⟩
  exact q t _ (Ex.new ht) upd_same
theorem vi_law_number_0 : Vis (defScope s_law_number) "_law_box_here" := by first | exact Or.inl (by decide +kernel) | exact Or.inr (Or.inl (by decide +kernel)) | exact Or.inr (Or.inr (by decide +kernel))
theorem vi_law_number_1 : Vis (defScope s_law_number) "_law_form" := by first | exact Or.inl (by decide +kernel) | exact Or.inr (Or.inl (by decide +kernel)) | exact Or.inr (Or.inr (by decide +kernel))
theorem vi_law_number_2 : Vis (defScope s_law_number) "_law_upper" := by first | exact Or.inl (by decide +kernel) | exact Or.inr (Or.inl (by decide +kernel)) | exact Or.inr (Or.inr (by decide +kernel))
theorem lo_law_number_1 : Loc (defScope s_law_number) "_law_form" := by first | exact Or.inl (by decide +kernel) | exact Or.inr (by decide +kernel)
theorem lo_law_number_2 : Loc (defScope s_law_number) "_law_upper" := by first | exact Or.inl (by decide +kernel) | exact Or.inr (by decide +kernel)
theorem ok_law_number (T : Txt K mg base) : FnOk P w K mg base (L2.CX P w) 3 T.a_law_number T.d_law_number ["_law_box_here"] spFx := by
  refine T.F_law_number.okX sc_law_number (fun vs H Q E h => ?_) (fun cdv A outer s H vs Q E hr h => ?_)
  · obtain ⟨_, rfl, _⟩ := h
    rfl
  obtain ⟨p, rfl, hb, q⟩ := h
  refine ⟨_, (pss_cons (ps_set (i := 1) sc_law_number.nd rfl lo_law_number_1 (pe_callD (ok_law_take T) (hr.mono (by decide)) rfl T.m_law_take T.F_law_take.kp T.b_law_take .nil (fun σ => passAt (takes_of rfl rfl rfl rfl) σ) (pa_cons (uv 0 (hv := vi_law_number_0)) (pa_cons pe_int pa_nil))))
      (pss_cons (ps_if (pt_cmpR uo_lt (uv 1 (hv := vi_law_number_1)) pe_int (nomark _)) (pss_one (ps_ret (pe_tup (pa_cons (pe_op uo_sub (pe_callD (ok_law_take T) (hr.mono (by decide)) rfl T.m_law_take T.F_law_take.kp T.b_law_take .nil (fun σ => passAt (takes_of rfl rfl rfl rfl) σ) (pa_cons (uv 0 (hv := vi_law_number_0)) (pa_cons pe_int pa_nil))) pe_int) (pa_cons pe_int pa_nil))))) pss_nil)
      (pss_cons (ps_set (i := 2) sc_law_number.nd rfl lo_law_number_2 (pe_op uo_sub (pe_callD (ok_law_take T) (hr.mono (by decide)) rfl T.m_law_take T.F_law_take.kp T.b_law_take .nil (fun σ => passAt (takes_of rfl rfl rfl rfl) σ) (pa_cons (uv 0 (hv := vi_law_number_0)) (pa_cons (pe_ix ux_seq (pe_lst (pa_cons pe_int (pa_cons pe_int pa_nil))) (pe_op uo_sub (uv 1 (hv := vi_law_number_1)) pe_int) (fun _ _ => rfl)) pa_nil))) (pe_ix ux_seq (pe_lst (pa_cons pe_int (pa_cons pe_int pa_nil))) (pe_op uo_sub (uv 1 (hv := vi_law_number_1)) pe_int) (fun _ _ => rfl))))
      (pss_one (ps_ret (pe_callD (ok_law_lowest T) (hr.mono (by decide)) rfl T.m_law_lowest T.F_law_lowest.kp T.b_law_lowest .nil (fun σ => passAt (takes_of rfl rfl rfl rfl) σ) (pa_cons (uv 2 (hv := vi_law_number_2)) (pa_cons (pe_op uo_add pe_int (pe_callD (ok_law_take T) (hr.mono (by decide)) rfl T.m_law_take T.F_law_take.kp T.b_law_take .nil (fun σ => passAt (takes_of rfl rfl rfl rfl) σ) (pa_cons (uv 0 (hv := vi_law_number_0)) (pa_cons (pe_ix ux_seq (pe_lst (pa_cons pe_int (pa_cons pe_int pa_nil))) (pe_op uo_sub (uv 1 (hv := vi_law_number_1)) pe_int) (fun _ _ => rfl)) pa_nil)))) pa_nil)))))))), ?_⟩
  walk_at "go"
  refine ⟨p, 6, rfl, hb, by decide, by decide, fun fo H1 fo0 fo1 b1 hb1 => ?_⟩
  walk_at "go"
  refine i_d (fun c => ?_) fun c => ?_
  · walk_at "go"
    refine ⟨p, 7, rfl, hb1, by decide, by decide, fun x H2 x0 x1 b2 hb2 => ?_⟩
    walk_at "go"
    refine g_new fun t ht => ?_
    exact q t (x - 3, 1) _ upd_same ⟨(by decide : (0 : Int) < 1), Int.gcd_one_right _, (show (x - 3).natAbs ≤ 1000 by omega), (by decide : (1 : Int) ≤ 100)⟩ ((b1.trans b2).trans ((Ex.new ht).but p)) (hb2.at_upd (hb2.ne ht))
  walk_at "go"
  refine g_new fun l1 hl1 => ?_
  have n1 := hb1.ne hl1
  have em : ∃ m k j : Int, atI [V.int 13, .int 2001] (fo - 4) = some (.int m) ∧ atI [V.int 6, .int 1000] (fo - 4) = some (.int k) ∧ atI [V.int 4, .int 100] (fo - 4) = some (.int j) ∧ 1 ≤ m ∧ m ≤ 2001 ∧ 0 ≤ k ∧ k ≤ 1000 ∧ m ≤ k + 1001 ∧ 1 ≤ j ∧ j ≤ 100 := by
    have z : fo - 4 = 0 ∨ fo - 4 = 1 := by omega
    rcases z with z | z
    · rw [z]
      exact ⟨13, 6, 4, rfl, rfl, rfl, by decide, by decide, by decide, by decide, by decide, by decide, by decide⟩
    · rw [z]
      exact ⟨2001, 1000, 100, rfl, rfl, rfl, by decide, by decide, by decide, by decide, by decide, by decide, by decide⟩
  obtain ⟨m, k, j, em, ek, ej, m0, m1, k0, k1, mk, j0, j1⟩ := em
  walk_at "go"
  refine g_ixL upd_same em ?_
  walk_at "go"
  refine ⟨p, m, rfl, hb1.at_upd n1, by omega, Nat.lt_of_lt_of_le (Bits.log (n := 12) (show m.natAbs < 2 ^ 12 by omega)) (by decide), fun x H2 x0 x1 b2 hb2 => ?_⟩
  have b12 := (b1.trans ((Ex.new hl1).but p)).trans b2
  walk_at "go"
  refine g_new fun l2 hl2 => ?_
  walk_at "go"
  refine g_ixL upd_same ek ?_
  have hb2x := hb2.at_upd (o := .lst [.int 6, .int 1000]) (hb2.ne hl2)
  have b2x := b12.trans ((Ex.new (o := .lst [.int 6, .int 1000]) hl2).but p)
  revert hb2x b2x
  generalize upd H2 l2 (.lst [.int 6, .int 1000]) = H3
  intro hb2x b2x
  walk_at "go"
  refine g_new fun l3 hl3 => ?_
  walk_at "go"
  refine g_ixL upd_same ej ?_
  have hb3 := hb2x.at_upd (o := .lst [.int 4, .int 100]) (hb2x.ne hl3)
  have b3 := b2x.trans ((Ex.new (o := .lst [.int 4, .int 100]) hl3).but p)
  revert hb3 b3
  generalize upd H3 l3 (.lst [.int 4, .int 100]) = H4
  intro hb3 b3
  walk_at "go"
  refine ⟨p, j, rfl, hb3, by omega, Nat.lt_of_lt_of_le (Bits.log (n := 10) (show j.natAbs < 2 ^ 10 by omega)) (by decide), fun y H5 y0 y1 b5 hb5 => ?_⟩
  walk_at "go"
  obtain ⟨f1, f2, f3, f4⟩ := fx_low (u := x - k) (l := 1 + y) (by omega)
  refine ⟨x - k, 1 + y, rfl, by omega, (show (x - k).natAbs < 2 ^ 13000 from Nat.lt_of_lt_of_le (by omega : (x - k).natAbs < 2 ^ 20) (Nat.pow_le_pow_right (by decide) (by decide))), (show (1 + y).natAbs < 2 ^ 11000 from Nat.lt_of_lt_of_le (by omega : (1 + y).natAbs < 2 ^ 20) (Nat.pow_le_pow_right (by decide) (by decide))), fun t ht => ?_⟩
  rw [lowF_eq (by omega)]
  exact q t ((x - k).fdiv (Int.gcd (x - k) (1 + y) : Nat), (1 + y).fdiv (Int.gcd (x - k) (1 + y) : Nat)) _ upd_same ⟨f1, f2, Nat.le_trans f3 (by omega), show (1 + y).fdiv _ ≤ 100 by omega⟩ ((b3.trans b5).trans ((Ex.new ht).but p)) (hb5.at_upd (hb5.ne ht))
theorem vi_law_long_0 : Vis (defScope s_law_long) "_law_box_here" := by first | exact Or.inl (by decide +kernel) | exact Or.inr (Or.inl (by decide +kernel)) | exact Or.inr (Or.inr (by decide +kernel))
theorem vi_law_long_1 : Vis (defScope s_law_long) "_law_some" := by first | exact Or.inl (by decide +kernel) | exact Or.inr (Or.inl (by decide +kernel)) | exact Or.inr (Or.inr (by decide +kernel))
theorem vi_law_long_2 : Vis (defScope s_law_long) "_law_found" := by first | exact Or.inl (by decide +kernel) | exact Or.inr (Or.inl (by decide +kernel)) | exact Or.inr (Or.inr (by decide +kernel))
theorem vi_law_long_4 : Vis (defScope s_law_long) "_law_upper" := by first | exact Or.inl (by decide +kernel) | exact Or.inr (Or.inl (by decide +kernel)) | exact Or.inr (Or.inr (by decide +kernel))
theorem vi_law_long_5 : Vis (defScope s_law_long) "_law_number_here" := by first | exact Or.inl (by decide +kernel) | exact Or.inr (Or.inl (by decide +kernel)) | exact Or.inr (Or.inr (by decide +kernel))
theorem lo_law_long_2 : Loc (defScope s_law_long) "_law_found" := by first | exact Or.inl (by decide +kernel) | exact Or.inr (by decide +kernel)
theorem lo_law_long_3 : Loc (defScope s_law_long) "_law_t" := by first | exact Or.inl (by decide +kernel) | exact Or.inr (by decide +kernel)
theorem lo_law_long_4 : Loc (defScope s_law_long) "_law_upper" := by first | exact Or.inl (by decide +kernel) | exact Or.inr (by decide +kernel)
theorem lo_law_long_5 : Loc (defScope s_law_long) "_law_number_here" := by first | exact Or.inl (by decide +kernel) | exact Or.inr (by decide +kernel)
theorem ok_law_long (T : Txt K mg base) : FnOk P w K mg base (L2.CX P w) 3 T.a_law_long T.d_law_long ["_law_box_here", "_law_some"] spLongDr := by
  refine T.F_law_long.okX sc_law_long (fun vs H Q E h => ?_) (fun cdv A outer s0 H vs Q E hr h => ?_)
  · obtain ⟨_, _, _, _, _, _, rfl, _⟩ := h
    rfl
  obtain ⟨p, s, b, k, es, ws, rfl, hb, hs, rs, lp, ll, el, q⟩ := h
  refine ⟨_, (pss_cons (ps_set (i := 2) sc_law_long.nd rfl lo_law_long_2 (pe_lst pa_nil))
      (pss_cons (ps_for (passes_of rfl) rfl (pi_range1 rfl T.z_range (pa_cons pe_int pa_nil)) (pg_name (i := 3) sc_law_long.nd rfl lo_law_long_3) (pss_cons (ps_set (i := 4) sc_law_long.nd rfl lo_law_long_4 (pe_op uo_mul (pe_callD (ok_law_take T) (hr.mono (by decide)) rfl T.m_law_take T.F_law_take.kp T.b_law_take .nil (fun σ => passAt (takes_of rfl rfl rfl rfl) σ) (pa_cons (uv 0 (hv := vi_law_long_0)) (pa_cons (pe_op uo_pow pe_int pe_int) pa_nil))) (pe_op uo_sub pe_int (pe_op uo_mul pe_int (pe_callD (ok_law_take T) (hr.mono (by decide)) rfl T.m_law_take T.F_law_take.kp T.b_law_take .nil (fun σ => passAt (takes_of rfl rfl rfl rfl) σ) (pa_cons (uv 0 (hv := vi_law_long_0)) (pa_cons pe_int pa_nil)))))))
      (pss_cons (ps_set (i := 5) sc_law_long.nd rfl lo_law_long_5 (pe_callD (ok_law_lowest T) (hr.mono (by decide)) rfl T.m_law_lowest T.F_law_lowest.kp T.b_law_lowest .nil (fun σ => passAt (takes_of rfl rfl rfl rfl) σ) (pa_cons (uv 4 (hv := vi_law_long_4)) (pa_cons (pe_op uo_add pe_int (pe_callD (ok_law_take T) (hr.mono (by decide)) rfl T.m_law_take T.F_law_take.kp T.b_law_take .nil (fun σ => passAt (takes_of rfl rfl rfl rfl) σ) (pa_cons (uv 0 (hv := vi_law_long_0)) (pa_cons (pe_op uo_sub (pe_op uo_pow pe_int pe_int) pe_int) pa_nil)))) pa_nil))))
      (pss_one (ps_expr (pe_bm PySem.F.plainAttrs_list PySem.F.slot_list_append PySem.F.type_list_append mt_append (uv 2 (hv := vi_law_long_2)) (pa_cons (pe_tup (pa_cons (pe_ix ux_seq (uv 1 (hv := vi_law_long_1)) (pe_callD (ok_law_take T) (hr.mono (by decide)) rfl T.m_law_take T.F_law_take.kp T.b_law_take .nil (fun σ => passAt (takes_of rfl rfl rfl rfl) σ) (pa_cons (uv 0 (hv := vi_law_long_0)) (pa_cons (pe_callB uk_len rfl T.z_len boot_len (pa_cons (uv 1 (hv := vi_law_long_1)) pa_nil)) pa_nil))) (fun _ _ => rfl)) (pa_cons (uv 5 (hv := vi_law_long_5)) pa_nil))) pa_nil)))))))
      (pss_one (ps_ret (uv 2 (hv := vi_law_long_2)))))), ?_⟩
  have ls : ws.length = es.length := by rw [rs.len, List.length_map]
  have nS : s ≠ p := hb.neL hs (fun x hx n z => by
    obtain ⟨i, hi⟩ := List.mem_iff_getElem?.mp hx
    obtain ⟨d, hd, r⟩ := rs.get hi
    rw [List.getElem?_map] at hd
    cases c : es[i]? with
    | none => rw [c] at hd; cases hd
    | some t =>
      rw [c] at hd
      cases hd
      obtain ⟨a, rfl, _⟩ := exp_at r
      cases z)
  walk_at "go"
  refine g_new fun F hF => ?_
  have nF := hb.ne hF
  have nFS : F ≠ s := (ne_of_none hs hF).symm
  have e1 : Ex H (upd H F (.lst [])) := Ex.new hF
  have hF1 := @upd_same H F (.lst [])
  revert e1 hF1
  generalize upd H F (.lst []) = H1
  intro e1 hF1
  walk_at "go"
  refine ⟨_, rfl, by omega, by omega, ?_⟩
  refine for_itC walk_range (fun i σ H4 => (∃ o3 o4 o5, σ = [some (.ref p), some (.ref s), some (.ref F), o3, o4, o5]) ∧ But p H H4 ∧ Box H4 p ∧ H4 s = some (.lst ws) ∧ Tk H H4 ∧ ∃ (us : List V) (ts : List Tp), H4 F = some (.lst us) ∧ Reps H4 (ts.map tpD) us ∧ ts.length = i ∧ ∀ t ∈ ts, (t.1.length = b ∧ (∀ x ∈ t.1, 0 ≤ x) ∧ t.1.sum ≤ ((k : Nat) : Int)) ∧ LowF t.2 ∧ t.2.1.natAbs ≤ 10 ^ 30 ∧ t.2.2 ≤ 10 ^ 30) ⟨⟨_, _, _, rfl⟩, e1.but p, hb.ex e1, e1 _ _ hs, e1.tk, [], [], hF1, rfl, rfl, fun t z => by simp at z⟩ (fun _ _ _ _ _ => trivial) ?_ ?_
  · rintro RT BK i y σ H4 H4' hi ⟨⟨o3, o4, o5, rfl⟩, y4, hb4, hs4, t4, us, ts, hF4, ru, lt, et⟩ ⟨rfl, rfl⟩
    walk_at "go"
    refine ⟨p, _, rfl, hb4, by decide, by decide +kernel, fun x H5 x0 x1 b5 hb5 => ?_⟩
    walk_at "go"
    refine ⟨p, 2, rfl, hb5, by decide, by decide, fun sg H6 g0 g1 b6 hb6 => ?_⟩
    have ten : (10 : Int) ^ (30 : Int).toNat = 1000000000000000000000000000000 := by decide
    rw [ten] at x1
    have m1 : CMm x (1 - 2 * sg) := .inl (.inr ⟨by omega, by omega⟩)
    walk_at "go"
    refine ⟨p, _, rfl, hb6, by decide, by decide +kernel, fun w H7 w0 w1 b7 hb7 => ?_⟩
    rw [ten] at w1
    have w2 : 0 < 1 + w := by omega
    have au : (x * (1 - 2 * sg)).natAbs ≤ 10 ^ 30 := by
      have z : sg = 0 ∨ sg = 1 := by omega
      rcases z with rfl | rfl
      · show (x * 1).natAbs ≤ _
        rw [Int.mul_one]
        omega
      · show (x * -1).natAbs ≤ _
        rw [Int.mul_neg, Int.mul_one]
        omega
    walk_at "go"
    refine ⟨_, _, rfl, w2, Nat.lt_of_le_of_lt au (Nat.lt_of_lt_of_le (show (10 : Nat) ^ 30 < 2 ^ 100 by decide) (Nat.pow_le_pow_right (by decide) (by decide))), Nat.lt_of_le_of_lt (show (1 + w).natAbs ≤ 10 ^ 30 by omega) (Nat.lt_of_lt_of_le (show (10 : Nat) ^ 30 < 2 ^ 100 by decide) (Nat.pow_le_pow_right (by decide) (by decide))), fun qf hqf => ?_⟩
    have fo : LowF (lowF (x * (1 - 2 * sg)) (1 + w)) ∧ (lowF (x * (1 - 2 * sg)) (1 + w)).1.natAbs ≤ 10 ^ 30 ∧ (lowF (x * (1 - 2 * sg)) (1 + w)).2 ≤ 10 ^ 30 := by
      rw [lowF_eq w2]
      obtain ⟨f1, f2, f3, f4⟩ := fx_low (u := x * (1 - 2 * sg)) w2
      refine ⟨⟨f1, f2⟩, Nat.le_trans f3 au, ?_⟩
      dsimp only
      omega
    have b47 : But p H4' H7 := (b5.trans b6).trans b7
    have e8 : Ex H7 (upd H7 qf (.tup [.int (lowF (x * (1 - 2 * sg)) (1 + w)).1, .int (lowF (x * (1 - 2 * sg)) (1 + w)).2])) := Ex.new hqf
    have h8 := @upd_same H7 qf (.tup [.int (lowF (x * (1 - 2 * sg)) (1 + w)).1, .int (lowF (x * (1 - 2 * sg)) (1 + w)).2])
    have hb8 := hb7.at_upd (o := .tup [.int (lowF (x * (1 - 2 * sg)) (1 + w)).1, .int (lowF (x * (1 - 2 * sg)) (1 + w)).2]) (hb7.ne hqf)
    revert e8 h8 hb8
    generalize upd H7 qf (.tup [.int (lowF (x * (1 - 2 * sg)) (1 + w)).1, .int (lowF (x * (1 - 2 * sg)) (1 + w)).2]) = H8
    generalize lowF (x * (1 - 2 * sg)) (1 + w) = f at fo
    intro e8 h8 hb8
    have b48 : But p H4' H8 := b47.trans (e8.but p)
    have hs8 := b48 _ _ nS hs4
    have hF8 := b48 _ _ nF hF4
    walk_at "go"
    refine ⟨p, ((ws.length : Nat) : Int), rfl, hb8, by omega, Nat.lt_of_lt_of_le (Bits.log (n := 12) (show (((ws.length : Nat) : Int)).natAbs < 2 ^ 12 by omega)) (by decide), fun z H9 z0 z1 b9 hb9 => ?_⟩
    have hs9 := b9 _ _ nS hs8
    obtain ⟨xv, hax, hx⟩ := atI_ex (l := ws) z0 (by omega)
    obtain ⟨dd, ed, rd⟩ := rs.get hx
    rw [List.getElem?_map] at ed
    cases ce : es[z.toNat]? with
    | none => rw [ce] at ed; cases ed
    | some e0 =>
    rw [ce] at ed
    cases ed
    obtain ⟨pe, rfl, hpe⟩ := exp_at rd
    walk_at "go"
    refine g_ixL hs9 hax ?_
    walk_at "go"
    refine g_new fun mm hm => ?_
    have ea : Ex H9 (upd H9 mm (.tup [.ref pe, .ref qf])) := Ex.new hm
    have ha := @upd_same H9 mm (.tup [.ref pe, .ref qf])
    have nm := hb9.ne hm
    have hba := hb9.at_upd (o := .tup [.ref pe, .ref qf]) nm
    revert ea ha hba
    generalize upd H9 mm (.tup [.ref pe, .ref qf]) = Ha
    intro ea ha hba
    have b4a : But p H4' Ha := (b48.trans b9).trans (ea.but p)
    have t4a : Tk H4' Ha := hb4.tk b4a
    have hFa := b4a _ _ nF hF4
    have lus : us.length ≤ 20 := by rw [ru.len, List.length_map]; omega
    have nq : qf ≠ p := by
      obtain ⟨_, _, _, z⟩ := hb8
      exact ne_of h8 z (fun y => nomatch y)
    walk_at "go"
    refine g_app hFa (Nat.lt_of_le_of_lt lus (by decide)) ?_
    have tb : Tk Ha (upd Ha F (.lst (us ++ [.ref mm]))) := (But.refl F Ha).upd.tkl hFa
    walk_at "go"
    refine ⟨⟨_, _, _, rfl⟩, (y4.trans b4a).at_new hF, hba.at_upd nF, by rw [upd_ne nFS.symm]; exact ea _ _ hs9, t4.trans (t4a.trans tb), us ++ [.ref mm], ts ++ [(e0, f)], upd_same, ?_, by rw [List.length_append, lt]; rfl, fun t ht => ?_⟩
    · rw [List.map_append]
      refine (ru.tk (t4a.trans tb) (tps_hard _)).append ⟨_, [], rfl, Rep.tp (tb _ _ ha) (tb _ _ ((t4.trans t4a) _ _ hpe)) (tb _ _ (ea _ _ (b9 _ _ nq h8))), rfl⟩
    · rcases List.mem_append.mp ht with ht | ht
      · exact et t ht
      · rw [List.mem_singleton] at ht
        subst ht
        exact ⟨el e0 (List.mem_of_getElem? ce), fo⟩
  · rintro σ H4 ⟨⟨o3, o4, o5, rfl⟩, y4, hb4, hs4, t4, us, ts, hF4, ru, lt, et⟩
    walk_at "go"
    exact q F us ts H4 ⟨by rw [lt]; decide, et⟩ hF nF hF4 ru y4 hb4
theorem vi_added_0 : Vis (defScope s_added) "one" := by first | exact Or.inl (by decide +kernel) | exact Or.inr (Or.inl (by decide +kernel)) | exact Or.inr (Or.inr (by decide +kernel))
theorem vi_added_1 : Vis (defScope s_added) "other" := by first | exact Or.inl (by decide +kernel) | exact Or.inr (Or.inl (by decide +kernel)) | exact Or.inr (Or.inr (by decide +kernel))
theorem ok_added (T : Txt K mg base) : FnOk P w K mg base (L2.CX P w) 4 T.a_added T.d_added ["one", "other"] (spArF addF) := by
  refine T.F_added.okX sc_added (fun vs H Q E h => ?_) (fun cdv A outer s H vs Q E hr h => ?_)
  · obtain ⟨_, _, _, _, rfl, _⟩ := h
    rfl
  obtain ⟨p, r, f, g, rfl, hp, hq, f0, g0, bf1, bf2, bg1, bg2, q⟩ := h
  refine ⟨_, (pss_one (ps_ret (pe_callD (ok_fraction_of T) (hr.mono (by decide)) rfl T.m_fraction_of T.F_fraction_of.kp T.b_fraction_of .nil (fun σ => passAt (takes_of rfl rfl rfl rfl) σ) (pa_cons (pe_op uo_add (pe_op uo_mul (pe_ix ux_seq (uv 0 (hv := vi_added_0)) pe_int (fun _ _ => rfl)) (pe_ix ux_seq (uv 1 (hv := vi_added_1)) pe_int (fun _ _ => rfl))) (pe_op uo_mul (pe_ix ux_seq (uv 1 (hv := vi_added_1)) pe_int (fun _ _ => rfl)) (pe_ix ux_seq (uv 0 (hv := vi_added_0)) pe_int (fun _ _ => rfl)))) (pa_cons (pe_op uo_mul (pe_ix ux_seq (uv 0 (hv := vi_added_0)) pe_int (fun _ _ => rfl)) (pe_ix ux_seq (uv 1 (hv := vi_added_1)) pe_int (fun _ _ => rfl))) pa_nil))))), ?_⟩
  have m1 := bf1.cmW bg2
  have m2 := bg1.cmW bf2
  have m3 := bf2.cmW bg2
  have pos : 0 < f.2 * g.2 := Int.mul_pos f0 g0
  have bl := bf2.mul bg2
  walk_at "go"
  refine ⟨_, _, rfl, pos, ((bf1.mul bg2).add (bg1.mul bf2)).le, bl.le, fun t ht => ?_⟩
  exact q t _ (Ex.new ht) upd_same
theorem vi_multiplied_0 : Vis (defScope s_multiplied) "one" := by first | exact Or.inl (by decide +kernel) | exact Or.inr (Or.inl (by decide +kernel)) | exact Or.inr (Or.inr (by decide +kernel))
theorem vi_multiplied_1 : Vis (defScope s_multiplied) "other" := by first | exact Or.inl (by decide +kernel) | exact Or.inr (Or.inl (by decide +kernel)) | exact Or.inr (Or.inr (by decide +kernel))
theorem ok_multiplied (T : Txt K mg base) : FnOk P w K mg base (L2.CX P w) 4 T.a_multiplied T.d_multiplied ["one", "other"] (spArF mulF) := by
  refine T.F_multiplied.okX sc_multiplied (fun vs H Q E h => ?_) (fun cdv A outer s H vs Q E hr h => ?_)
  · obtain ⟨_, _, _, _, rfl, _⟩ := h
    rfl
  obtain ⟨p, r, f, g, rfl, hp, hq, f0, g0, bf1, bf2, bg1, bg2, q⟩ := h
  refine ⟨_, (pss_one (ps_ret (pe_callD (ok_fraction_of T) (hr.mono (by decide)) rfl T.m_fraction_of T.F_fraction_of.kp T.b_fraction_of .nil (fun σ => passAt (takes_of rfl rfl rfl rfl) σ) (pa_cons (pe_op uo_mul (pe_ix ux_seq (uv 0 (hv := vi_multiplied_0)) pe_int (fun _ _ => rfl)) (pe_ix ux_seq (uv 1 (hv := vi_multiplied_1)) pe_int (fun _ _ => rfl))) (pa_cons (pe_op uo_mul (pe_ix ux_seq (uv 0 (hv := vi_multiplied_0)) pe_int (fun _ _ => rfl)) (pe_ix ux_seq (uv 1 (hv := vi_multiplied_1)) pe_int (fun _ _ => rfl))) pa_nil))))), ?_⟩
  have m1 := bf1.cmW bg1
  have m3 := bf2.cmW bg2
  have pos : 0 < f.2 * g.2 := Int.mul_pos f0 g0
  have bl := bf2.mul bg2
  walk_at "go"
  refine ⟨_, _, rfl, pos, (bf1.mul bg1).le, bl.le, fun t ht => ?_⟩
  exact q t _ (Ex.new ht) upd_same
theorem vi_law_power_0 : Vis (defScope s_law_power) "_law_exponents_here" := by first | exact Or.inl (by decide +kernel) | exact Or.inr (Or.inl (by decide +kernel)) | exact Or.inr (Or.inr (by decide +kernel))
theorem vi_law_power_1 : Vis (defScope s_law_power) "_law_numbers" := by first | exact Or.inl (by decide +kernel) | exact Or.inr (Or.inl (by decide +kernel)) | exact Or.inr (Or.inr (by decide +kernel))
theorem vi_law_power_2 : Vis (defScope s_law_power) "_law_found" := by first | exact Or.inl (by decide +kernel) | exact Or.inr (Or.inl (by decide +kernel)) | exact Or.inr (Or.inr (by decide +kernel))
theorem vi_law_power_3 : Vis (defScope s_law_power) "_law_e" := by first | exact Or.inl (by decide +kernel) | exact Or.inr (Or.inl (by decide +kernel)) | exact Or.inr (Or.inr (by decide +kernel))
theorem vi_law_power_4 : Vis (defScope s_law_power) "_law_number_here" := by first | exact Or.inl (by decide +kernel) | exact Or.inr (Or.inl (by decide +kernel)) | exact Or.inr (Or.inr (by decide +kernel))
theorem lo_law_power_2 : Loc (defScope s_law_power) "_law_found" := by first | exact Or.inl (by decide +kernel) | exact Or.inr (by decide +kernel)
theorem lo_law_power_3 : Loc (defScope s_law_power) "_law_e" := by first | exact Or.inl (by decide +kernel) | exact Or.inr (by decide +kernel)
theorem lo_law_power_4 : Loc (defScope s_law_power) "_law_number_here" := by first | exact Or.inl (by decide +kernel) | exact Or.inr (by decide +kernel)
theorem lo_law_power_5 : Loc (defScope s_law_power) "_law_turn" := by first | exact Or.inl (by decide +kernel) | exact Or.inr (by decide +kernel)
theorem ok_law_power (T : Txt K mg base) : FnOk P w K mg base (L2.CX P w) 4 T.a_law_power T.d_law_power ["_law_exponents_here", "_law_numbers"] spProdAt := by
  refine T.F_law_power.okX sc_law_power (fun vs H Q E h => ?_) (fun cdv A outer s H vs Q E hr h => ?_)
  · obtain ⟨_, _, _, _, _, _, _, rfl, _⟩ := h
    rfl
  obtain ⟨a, r, e, fs, B, M, k, rfl, ha, rf, le, he, hs, hf, hB, hM, hM2, hB2, hk, lf, q⟩ := h
  refine ⟨_, (pss_cons (ps_set (i := 2) sc_law_power.nd rfl lo_law_power_2 (pe_tup (pa_cons pe_int (pa_cons pe_int pa_nil))))
      (pss_cons (ps_for (passes_of rfl) rfl (pi_zipN rfl T.z_zip (pa_cons (uv 0 (hv := vi_law_power_0)) (pa_cons (uv 1 (hv := vi_law_power_1)) pa_nil))) (pg_tup rfl (pgs_cons (pg_name (i := 3) sc_law_power.nd rfl lo_law_power_3) (pgs_cons (pg_name (i := 4) sc_law_power.nd rfl lo_law_power_4) pgs_nil))) (pss_one (ps_for (passes_of rfl) rfl (pi_range1 rfl T.z_range (pa_cons (uv 3 (hv := vi_law_power_3)) pa_nil)) (pg_name (i := 5) sc_law_power.nd rfl lo_law_power_5) (pss_one (ps_set (i := 2) sc_law_power.nd rfl lo_law_power_2 (pe_callD (ok_law_by T) (hr.mono (by decide)) rfl T.m_law_by T.F_law_by.kp T.b_law_by .nil (fun σ => passAt (takes_of rfl rfl rfl rfl) σ) (pa_cons (uv 2 (hv := vi_law_power_2)) (pa_cons (uv 4 (hv := vi_law_power_4)) pa_nil))))))))
      (pss_one (ps_ret (uv 2 (hv := vi_law_power_2)))))), ?_⟩
  obtain ⟨r', ws, e0, hr', rw'⟩ := rf
  cases e0
  have lw : ws.length = fs.length := by rw [rw'.len, List.length_map]
  walk_at "go"
  refine g_new fun z hz => ?_
  have e1 : Ex H (upd H z (.tup [.int 1, .int 1])) := Ex.new hz
  have hz1 := @upd_same H z (.tup [.int 1, .int 1])
  revert e1 hz1
  generalize upd H z (.tup [.int 1, .int 1]) = H1
  intro e1 hz1
  walk_at "go"
  refine ⟨true, true, a, r, _, _, rfl, sqT (e1 _ _ ha), sqT (e1 _ _ hr'), ?_⟩
  refine for_itC (walk_zipS (by rw [List.length_map]; omega)) (fun i σ H4 => (∃ o3 o4 o5 g, σ = [some (.ref a), some (.ref r), some (.ref g), o3, o4, o5] ∧ H4 g = some (.tup [.int (((e.zip fs).take i).foldl powF (1, 1)).1, .int (((e.zip fs).take i).foldl powF (1, 1)).2]) ∧ Szf (B ^ (e.take i).sum.toNat) (M ^ (e.take i).sum.toNat) (((e.zip fs).take i).foldl powF (1, 1))) ∧ Ex H H4) ⟨⟨_, _, _, z, rfl, hz1, ⟨show (0 : Int) < 1 by decide, Nat.one_dvd _, by simp⟩⟩, e1⟩ (fun i σ H4 _ pv => ⟨sqT (pv.2 _ _ ha), sqT (pv.2 _ _ hr')⟩) ?_ ?_
  · rintro RT BK i y σ H4 H4' hi ⟨⟨o3, o4, o5, g, rfl, hg, sg⟩, e4⟩ ⟨T4, x1, x2, rfl, hT4, rfl, g1, g2⟩
    replace g1 : (e.map V.int)[i]? = some x1 := g1
    rw [List.getElem?_map] at g1
    cases ce : e[i]? with
    | none => rw [ce] at g1; cases g1
    | some x =>
    rw [ce] at g1
    cases g1
    obtain ⟨dd, ed, rd⟩ := rw'.get g2
    rw [List.getElem?_map] at ed
    cases cf : fs[i]? with
    | none => rw [cf] at ed; cases ed
    | some f =>
    rw [cf] at ed
    cases ed
    obtain ⟨pf, rfl, hpf⟩ := fx_at rd
    have e5 : Ex H4 (upd H4 T4 (.tup [.int x, .ref pf])) := Ex.new hT4
    have h5 := @upd_same H4 T4 (.tup [.int x, .ref pf])
    revert e5 h5
    generalize upd H4 T4 (.tup [.int x, .ref pf]) = H5
    intro e5 h5
    have x0 : 0 ≤ x := he x (List.mem_of_getElem? ce)
    have sumt : (e.take (i + 1)).sum = (e.take i).sum + x := by rw [take_at ce, List.sum_append]; simp
    have s0 : 0 ≤ (e.take i).sum := sumI_nonneg fun y hy => he y (List.mem_of_mem_take hy)
    have sle : (e.take (i + 1)).sum ≤ e.sum := by
      have := congrArg List.sum (List.take_append_drop (i + 1) e)
      rw [List.sum_append] at this
      have d0 : 0 ≤ (e.drop (i + 1)).sum := sumI_nonneg fun y hy => he y (List.mem_of_mem_drop hy)
      omega
    have zt : (e.zip fs).take (i + 1) = (e.zip fs).take i ++ [(x, f)] := take_at (zip_at ce cf)
    refine g_tup2 h5 ?_
    walk_at "go"
    refine ⟨_, rfl, by omega, by omega, ?_⟩
    have hg5 := e5 _ _ hg
    have hp5 := e5 _ _ (e4 _ _ hpf)
    have sf := hf f (List.mem_of_getElem? cf)
    refine for_itC walk_range (fun j σ H6 => (∃ o5 g', σ = [some (.ref a), some (.ref r), some (.ref g'), some (.int x), some (.ref pf), o5] ∧ H6 g' = some (.tup [.int ((List.replicate j f).foldl mulF (((e.zip fs).take i).foldl powF (1, 1))).1, .int ((List.replicate j f).foldl mulF (((e.zip fs).take i).foldl powF (1, 1))).2]) ∧ Szf (B ^ ((e.take i).sum.toNat + j)) (M ^ ((e.take i).sum.toNat + j)) ((List.replicate j f).foldl mulF (((e.zip fs).take i).foldl powF (1, 1)))) ∧ Ex H5 H6) ⟨⟨_, g, rfl, hg5, sg⟩, Ex.refl _⟩ (fun _ _ _ _ _ => trivial) ?_ ?_
    · rintro RT BK j y σ H6 H6' hj ⟨⟨o5, g', rfl, hg', sg'⟩, e6⟩ ⟨rfl, rfl⟩
      walk_at "go"
      have c1 : (e.take i).sum.toNat + j ≤ k := by omega
      have b1 := sg'.bits (n := 5500) (m := 900) (Nat.lt_of_le_of_lt (Nat.pow_le_pow_right hM c1) hM2) (Nat.lt_of_le_of_lt (Nat.pow_le_pow_right hB c1) hB2) (Nat.pow_pos hM)
      have c2 : 1 ≤ k := by omega
      have hM1 : M < 2 ^ 5500 := Nat.lt_of_le_of_lt (by have := Nat.pow_le_pow_right hM c2; simpa using this) hM2
      have hB1 : B < 2 ^ 900 := Nat.lt_of_le_of_lt (by have := Nat.pow_le_pow_right hB c2; simpa using this) hB2
      have b2 := sf.bits (n := 5500) (m := 900) hM1 hB1 hM
      refine ⟨g', pf, _, f, rfl, hg', e6 _ _ hp5, sg'.pos, sf.pos, b1.2.le, b1.1, b2.2.le, b2.1, fun t H7 e7 h7 => ?_⟩
      walk_at "go"
      refine ⟨⟨_, t, rfl, ?_, ?_⟩, e6.trans e7⟩
      · rw [List.replicate_succ', List.foldl_append]
        exact h7
      · rw [List.replicate_succ', List.foldl_append, ← Nat.add_assoc, Nat.pow_succ, Nat.pow_succ]
        exact sg'.mul sf
    · rintro σ H6 ⟨⟨o5, g', rfl, hg', sg'⟩, e6⟩
      refine ⟨⟨_, _, _, g', rfl, ?_, ?_⟩, (e4.trans e5).trans e6⟩
      · rw [zt, List.foldl_append]
        have z : ((0 : Int) - 0 + x).toNat = x.toNat := by omega
        simpa [powF] using hg'
      · rw [zt, List.foldl_append, sumt]
        have z : ((e.take i).sum + x).toNat = (e.take i).sum.toNat + x.toNat := by omega
        rw [z]
        simpa [powF] using sg'
  rintro σ H4 ⟨⟨o3, o4, o5, g, rfl, hg, sg⟩, e4⟩
  walk_at "go"
  refine q g H4 e4 ?_
  have z : (e.zip fs).take (e.map V.int).length = e.zip fs := List.take_of_length_le (by rw [List.length_zip, List.length_map]; omega)
  rw [z] at hg
  exact hg
theorem vi_law_is_0 : Vis (defScope s_law_is) "_law_poly_here" := by first | exact Or.inl (by decide +kernel) | exact Or.inr (Or.inl (by decide +kernel)) | exact Or.inr (Or.inr (by decide +kernel))
theorem vi_law_is_1 : Vis (defScope s_law_is) "_law_boxes" := by first | exact Or.inl (by decide +kernel) | exact Or.inr (Or.inl (by decide +kernel)) | exact Or.inr (Or.inr (by decide +kernel))
theorem vi_law_is_2 : Vis (defScope s_law_is) "_law_own" := by first | exact Or.inl (by decide +kernel) | exact Or.inr (Or.inl (by decide +kernel)) | exact Or.inr (Or.inr (by decide +kernel))
theorem vi_law_is_3 : Vis (defScope s_law_is) "_law_due" := by first | exact Or.inl (by decide +kernel) | exact Or.inr (Or.inl (by decide +kernel)) | exact Or.inr (Or.inr (by decide +kernel))
theorem lo_law_is_3 : Loc (defScope s_law_is) "_law_due" := by first | exact Or.inl (by decide +kernel) | exact Or.inr (by decide +kernel)
theorem ok_law_is (T : Txt K mg base) : FnOk P w K mg base (L2.CX P w) 4 T.a_law_is T.d_law_is ["_law_poly_here", "_law_boxes", "_law_own"] (spLawIs T.a_Poly) := by
  refine T.F_law_is.okX sc_law_is (fun vs H Q E h => ?_) (fun cdv A outer s H vs Q E hr h => ?_)
  · obtain ⟨_, _, _, _, _, rfl, _⟩ := h
    rfl
  obtain ⟨p, l, n, ts, us, rfl, pa, hl, ru, lt, le, q⟩ := h
  refine ⟨_, (pss_cons (ps_if (PW.pt (pw_or (pt_not (ut (pe_callD (ok_law_alike T) (hr.mono (by decide)) rfl T.m_law_alike T.F_law_alike.kp T.b_law_alike .nil (fun σ => passAt (takes_of rfl rfl rfl rfl) σ) (pa_cons (pe_fld (uv 0 (hv := vi_law_is_0)) rfl) (pa_cons (uv 1 (hv := vi_law_is_1)) pa_nil))))) (pw_or1 (pt_not (ut (pe_callD (ok_law_alike T) (hr.mono (by decide)) rfl T.m_law_alike T.F_law_alike.kp T.b_law_alike .nil (fun σ => passAt (takes_of rfl rfl rfl rfl) σ) (pa_cons (pe_methD0 (uv 0 (hv := vi_law_is_0)) T.cl_Poly T.mt_Poly_terms (ok_Poly_terms T) (hr.mono (by decide)) T.b_Poly_terms .nil (fun σ => passAt (takes_of rfl rfl rfl rfl) σ)) (pa_cons (uv 2 (hv := vi_law_is_2)) pa_nil)))))))) (pss_one (ps_ret pe_bl)) pss_nil)
      (pss_cons (ps_if (pt_not (ut (pe_callD (ok_law_alike T) (hr.mono (by decide)) rfl T.m_law_alike T.F_law_alike.kp T.b_law_alike .nil (fun σ => passAt (takes_of rfl rfl rfl rfl) σ) (pa_cons (pe_callB (uk_lenO (ok_Poly_len T) T.mt_Poly_len.at_ T.mt_Poly_len.fn (hr.mono (by decide)) T.b_Poly_len (fun _ => passAt0)) rfl T.z_len boot_len (pa_cons (uv 0 (hv := vi_law_is_0)) pa_nil)) (pa_cons (pe_callB uk_len rfl T.z_len boot_len (pa_cons (uv 2 (hv := vi_law_is_2)) pa_nil)) pa_nil))))) (pss_one (ps_ret pe_bl)) pss_nil)
      (pss_cons (ps_expr (pe_bm PySem.F.plainAttrs_list PySem.F.slot_list_append PySem.F.type_list_append mt_append (pe_methD0 (uv 0 (hv := vi_law_is_0)) T.cl_Poly T.mt_Poly_terms (ok_Poly_terms T) (hr.mono (by decide)) T.b_Poly_terms .nil (fun σ => passAt (takes_of rfl rfl rfl rfl) σ)) (pa_cons pe_str pa_nil)))
      (pss_cons (ps_set (i := 3) sc_law_is.nd rfl lo_law_is_3 (pe_maxD hr.units rfl rfl T.z_max (pa_cons (pe_lc (own := [("_law_exponents_here", 4), ("_law_number_here", 5)]) (g := gTup K 2 (gCons (gName 4) (gCons (gName 5) gNil))) rfl sc_law_is.nd (ui_seq (uv 2 (hv := vi_law_is_2))) (blkOk_by (own := [("_law_exponents_here", 4), ("_law_number_here", 5)]) (N := N_law_is) (sc := defScope s_law_is) (by decide +kernel)) (fun _ _ _ _ _ => (pg_tup rfl (pgs_cons (pg_name (i := 4) sc_law_is.nd rfl (by first | exact Or.inl rfl | exact Or.inr rfl)) (pgs_cons (pg_name (i := 5) sc_law_is.nd rfl (by first | exact Or.inl rfl | exact Or.inr rfl)) pgs_nil)))) (fun _ _ _ _ _ => pts_nil) (fun _ _ _ _ _ => (pe_callB (cr_sumT rfl) rfl T.z_sum boot_sum (pa_cons (uv 4) pa_nil)))) pa_nil) pe_int))
      (pss_one (ps_ret (pe_and (pe_callD (ok_law_alike T) (hr.mono (by decide)) rfl T.m_law_alike T.F_law_alike.kp T.b_law_alike .nil (fun σ => passAt (takes_of rfl rfl rfl rfl) σ) (pa_cons (pe_methD0 (uv 0 (hv := vi_law_is_0)) T.cl_Poly T.mt_Poly_terms (ok_Poly_terms T) (hr.mono (by decide)) T.b_Poly_terms .nil (fun σ => passAt (takes_of rfl rfl rfl rfl) σ)) (pa_cons (uv 2 (hv := vi_law_is_2)) pa_nil))) (pe_one (pe_callD (ok_law_alike T) (hr.mono (by decide)) rfl T.m_law_alike T.F_law_alike.kp T.b_law_alike .nil (fun σ => passAt (takes_of rfl rfl rfl rfl) σ) (pa_cons (pe_methD0 (uv 0 (hv := vi_law_is_0)) T.cl_Poly T.mt_Poly_degree (ok_Poly_degree T) (hr.mono (by decide)) T.b_Poly_degree .nil (fun σ => passAt (takes_of rfl rfl rfl rfl) σ)) (pa_cons (uv 3 (hv := vi_law_is_3)) pa_nil))))))))))), ?_⟩
  obtain ⟨dx, l0, vs, hp, hl0, rl⟩ := id pa
  have lu : us.length = ts.length := by rw [ru.len, List.length_map]
  have sz := tps_size le lt
  have le' : ∀ t ∈ ts, t.1.length ≤ 100000 := fun t ht => Nat.le_trans (le t ht) (by decide)
  walk_at "go"
  refine g_fldO hp T.cl_Poly T.na_Poly_boxes flPoB ?_
  walk_at "go"
  refine ⟨.int n, _, _, rfl, rfl, rfl, by show 1 ≤ 400000; decide, fun H1 e1 => ?_⟩
  walk_at "go"
  refine g_self (e1 _ _ hp) flPo_terms ?_
  walk_at "go"
  refine ⟨p, n, ts, rfl, pa.ex e1, fun q1 ws1 H2 e2 _ h1 r1 => ?_⟩
  have e12 := e1.trans e2
  walk_at "go"
  refine ⟨.lst (ts.map tpD), _, _, rfl, Rep.lst h1 r1, Rep.lst (e12 _ _ hl) (ru.ex e12), sz, fun H3 e3 => ?_⟩
  have e13 := e12.trans e3
  walk_at "go"
  refine ⟨p, _, _, rfl, e13 _ _ hp, p, n, ts, rfl, pa.ex e13, Nat.le_trans lt (by decide), le', fun H4 e4 => ⟨_, rfl, ⟨by show (0 : Int) ≤ ((ts.length : Nat) : Int); omega, by show ((ts.length : Nat) : Int) < 2 ^ 63; omega⟩, ?_⟩⟩
  have e14 := e13.trans e4
  have hl4 := e14 _ _ hl
  walk_at "go"
  refine ⟨.int (ts.length : Nat), _, _, rfl, rfl, by rw [lu]; rfl, by show 1 ≤ 400000; decide, fun H5 e5 => ?_⟩
  have e15 := e14.trans e5
  walk_at "go"
  refine g_self (e15 _ _ hp) flPo_terms ?_
  walk_at "go"
  refine ⟨p, n, ts, rfl, pa.ex e15, fun q2 ws2 H6 e6 n6 h6 r6 => ?_⟩
  walk_at "go"
  have lw2 : ws2.length = ts.length := by rw [r6.len, List.length_map]
  refine g_app h6 (Nat.lt_of_le_of_lt (show ws2.length ≤ 3000 by omega) (by decide)) ?_
  have e17 : Ex H (upd H6 q2 (.lst (ws2 ++ [.str "more"]))) := (e15.trans e6).at_new (e15.free n6)
  revert e17
  generalize upd H6 q2 (.lst (ws2 ++ [.str "more"])) = H7
  intro e17
  have hl7 := e17 _ _ hl
  have ru7 := ru.ex e17
  walk_at "go"
  refine g_maxD ?_
  walk_at "go"
  refine .inl ?_
  walk_at "go"
  refine ⟨l, rfl, ⟨_, sqL hl7⟩, fun D hD => ?_⟩
  refine lc_mapE walk_list (fun j _ v => ∃ t, ts[j]? = some t ∧ v = .int t.1.sum) (by omega) hD (fun _ _ _ _ _ r => r) (fun H2 e2 => sqL (e2 _ _ hl7)) ?_ ?_
  · rintro j y H2 H3 P N hj e2 ⟨rfl, hy⟩ k
    obtain ⟨dd, ed, rd⟩ := ru7.get hy
    rw [List.getElem?_map] at ed
    cases ct : ts[j]? with
    | none => rw [ct] at ed; cases ed
    | some t =>
    rw [ct] at ed
    cases ed
    obtain ⟨ya, pa, qa, rfl, h1, h2, h3⟩ := tp_at (rd.ex e2)
    refine g_tup2 h1 ?_
    walk_at "go"
    refine ⟨rfl, ?_⟩
    walk_at "go"
    refine g_sumT h2 ?_
    exact k _ _ (Ex.refl _) ⟨t, ct, rfl⟩
  intro H8 acc e8 hacc hla hr2
  have ea : acc = (ts.map fun t => t.1.sum).map V.int := by
    refine List.ext_getElem? fun j => ?_
    rw [List.map_map, List.getElem?_map]
    cases c : acc[j]? with
    | none =>
      have := List.getElem?_eq_none_iff.1 c
      rw [List.getElem?_eq_none (by omega)]
      rfl
    | some v =>
      obtain ⟨x, hx, rfl⟩ := hr2 j v c
      rw [hx]
      rfl
  subst ea
  have e18 := e17.trans e8
  walk_at "go"
  refine ⟨D, ts.map fun t => t.1.sum, rfl, sqL hacc, ?_⟩
  walk_at "go"
  refine g_self (e18 _ _ hp) flPo_terms ?_
  walk_at "go"
  refine ⟨p, n, ts, rfl, pa.ex e18, fun q3 ws3 H9 e9 n9 h9 r9 => ?_⟩
  have e19 := e18.trans e9
  walk_at "go"
  refine ⟨.lst (ts.map tpD), _, _, rfl, Rep.lst h9 r9, Rep.lst (e19 _ _ hl) (ru.ex e19), sz, fun Ha ea => ⟨true, rfl, ?_⟩⟩
  rw [if_pos rfl]
  have e1a := e19.trans ea
  walk_at "go"
  refine g_self (e1a _ _ hp) flPo_degree ?_
  walk_at "go"
  refine ⟨p, n, ts, rfl, pa.ex e1a, Nat.le_trans lt (by decide), le', fun Hb eb => ?_⟩
  walk_at "go"
  refine ⟨.int (degP ts), _, _, rfl, rfl, rfl, by show 1 ≤ 400000; decide, fun Hc ec => ?_⟩
  exact q _ ((e1a.trans eb).trans ec)
theorem vi_product_at_0 : Vis (defScope s_product_at) "exponents" := by first | exact Or.inl (by decide +kernel) | exact Or.inr (Or.inl (by decide +kernel)) | exact Or.inr (Or.inr (by decide +kernel))
theorem vi_product_at_1 : Vis (defScope s_product_at) "numbers" := by first | exact Or.inl (by decide +kernel) | exact Or.inr (Or.inl (by decide +kernel)) | exact Or.inr (Or.inr (by decide +kernel))
theorem vi_product_at_2 : Vis (defScope s_product_at) "found" := by first | exact Or.inl (by decide +kernel) | exact Or.inr (Or.inl (by decide +kernel)) | exact Or.inr (Or.inr (by decide +kernel))
theorem vi_product_at_3 : Vis (defScope s_product_at) "e" := by first | exact Or.inl (by decide +kernel) | exact Or.inr (Or.inl (by decide +kernel)) | exact Or.inr (Or.inr (by decide +kernel))
theorem vi_product_at_4 : Vis (defScope s_product_at) "number" := by first | exact Or.inl (by decide +kernel) | exact Or.inr (Or.inl (by decide +kernel)) | exact Or.inr (Or.inr (by decide +kernel))
theorem lo_product_at_2 : Loc (defScope s_product_at) "found" := by first | exact Or.inl (by decide +kernel) | exact Or.inr (by decide +kernel)
theorem lo_product_at_3 : Loc (defScope s_product_at) "e" := by first | exact Or.inl (by decide +kernel) | exact Or.inr (by decide +kernel)
theorem lo_product_at_4 : Loc (defScope s_product_at) "number" := by first | exact Or.inl (by decide +kernel) | exact Or.inr (by decide +kernel)
theorem lo_product_at_5 : Loc (defScope s_product_at) "turn" := by first | exact Or.inl (by decide +kernel) | exact Or.inr (by decide +kernel)
theorem ok_product_at (T : Txt K mg base) : FnOk P w K mg base (L2.CX P w) 5 T.a_product_at T.d_product_at ["exponents", "numbers"] spProdAt := by
  refine T.F_product_at.okX sc_product_at (fun vs H Q E h => ?_) (fun cdv A outer s H vs Q E hr h => ?_)
  · obtain ⟨_, _, _, _, _, _, _, rfl, _⟩ := h
    rfl
  obtain ⟨a, r, e, fs, B, M, k, rfl, ha, rf, le, he, hs, hf, hB, hM, hM2, hB2, hk, lf, q⟩ := h
  refine ⟨_, (pss_cons (ps_set (i := 2) sc_product_at.nd rfl lo_product_at_2 (pe_tup (pa_cons pe_int (pa_cons pe_int pa_nil))))
      (pss_cons (ps_for (passes_of rfl) rfl (pi_zipS rfl T.z_zip (pa_cons (uv 0 (hv := vi_product_at_0)) (pa_cons (uv 1 (hv := vi_product_at_1)) pa_nil)) pe_bl) (pg_tup rfl (pgs_cons (pg_name (i := 3) sc_product_at.nd rfl lo_product_at_3) (pgs_cons (pg_name (i := 4) sc_product_at.nd rfl lo_product_at_4) pgs_nil))) (pss_one (ps_for (passes_of rfl) rfl (pi_range1 rfl T.z_range (pa_cons (uv 3 (hv := vi_product_at_3)) pa_nil)) (pg_name (i := 5) sc_product_at.nd rfl lo_product_at_5) (pss_one (ps_set (i := 2) sc_product_at.nd rfl lo_product_at_2 (pe_callD (ok_multiplied T) (hr.mono (by decide)) rfl T.m_multiplied T.F_multiplied.kp T.b_multiplied .nil (fun σ => passAt (takes_of rfl rfl rfl rfl) σ) (pa_cons (uv 2 (hv := vi_product_at_2)) (pa_cons (uv 4 (hv := vi_product_at_4)) pa_nil))))))))
      (pss_one (ps_ret (uv 2 (hv := vi_product_at_2)))))), ?_⟩
  obtain ⟨r', ws, e0, hr', rw'⟩ := rf
  cases e0
  have lw : ws.length = fs.length := by rw [rw'.len, List.length_map]
  walk_at "go"
  refine g_new fun z hz => ?_
  have e1 : Ex H (upd H z (.tup [.int 1, .int 1])) := Ex.new hz
  have hz1 := @upd_same H z (.tup [.int 1, .int 1])
  revert e1 hz1
  generalize upd H z (.tup [.int 1, .int 1]) = H1
  intro e1 hz1
  walk_at "go"
  refine ⟨true, true, a, r, _, _, rfl, sqT (e1 _ _ ha), sqT (e1 _ _ hr'), ?_⟩
  refine for_itC (walk_zipS (by rw [List.length_map]; omega)) (fun i σ H4 => (∃ o3 o4 o5 g, σ = [some (.ref a), some (.ref r), some (.ref g), o3, o4, o5] ∧ H4 g = some (.tup [.int (((e.zip fs).take i).foldl powF (1, 1)).1, .int (((e.zip fs).take i).foldl powF (1, 1)).2]) ∧ Szf (B ^ (e.take i).sum.toNat) (M ^ (e.take i).sum.toNat) (((e.zip fs).take i).foldl powF (1, 1))) ∧ Ex H H4) ⟨⟨_, _, _, z, rfl, hz1, ⟨show (0 : Int) < 1 by decide, Nat.one_dvd _, by simp⟩⟩, e1⟩ (fun i σ H4 _ pv => ⟨sqT (pv.2 _ _ ha), sqT (pv.2 _ _ hr')⟩) ?_ ?_
  · rintro RT BK i y σ H4 H4' hi ⟨⟨o3, o4, o5, g, rfl, hg, sg⟩, e4⟩ ⟨T4, x1, x2, rfl, hT4, rfl, g1, g2⟩
    replace g1 : (e.map V.int)[i]? = some x1 := g1
    rw [List.getElem?_map] at g1
    cases ce : e[i]? with
    | none => rw [ce] at g1; cases g1
    | some x =>
    rw [ce] at g1
    cases g1
    obtain ⟨dd, ed, rd⟩ := rw'.get g2
    rw [List.getElem?_map] at ed
    cases cf : fs[i]? with
    | none => rw [cf] at ed; cases ed
    | some f =>
    rw [cf] at ed
    cases ed
    obtain ⟨pf, rfl, hpf⟩ := fx_at rd
    have e5 : Ex H4 (upd H4 T4 (.tup [.int x, .ref pf])) := Ex.new hT4
    have h5 := @upd_same H4 T4 (.tup [.int x, .ref pf])
    revert e5 h5
    generalize upd H4 T4 (.tup [.int x, .ref pf]) = H5
    intro e5 h5
    have x0 : 0 ≤ x := he x (List.mem_of_getElem? ce)
    have sumt : (e.take (i + 1)).sum = (e.take i).sum + x := by rw [take_at ce, List.sum_append]; simp
    have s0 : 0 ≤ (e.take i).sum := sumI_nonneg fun y hy => he y (List.mem_of_mem_take hy)
    have sle : (e.take (i + 1)).sum ≤ e.sum := by
      have := congrArg List.sum (List.take_append_drop (i + 1) e)
      rw [List.sum_append] at this
      have d0 : 0 ≤ (e.drop (i + 1)).sum := sumI_nonneg fun y hy => he y (List.mem_of_mem_drop hy)
      omega
    have zt : (e.zip fs).take (i + 1) = (e.zip fs).take i ++ [(x, f)] := take_at (zip_at ce cf)
    refine g_tup2 h5 ?_
    walk_at "go"
    refine ⟨_, rfl, by omega, by omega, ?_⟩
    have hg5 := e5 _ _ hg
    have hp5 := e5 _ _ (e4 _ _ hpf)
    have sf := hf f (List.mem_of_getElem? cf)
    refine for_itC walk_range (fun j σ H6 => (∃ o5 g', σ = [some (.ref a), some (.ref r), some (.ref g'), some (.int x), some (.ref pf), o5] ∧ H6 g' = some (.tup [.int ((List.replicate j f).foldl mulF (((e.zip fs).take i).foldl powF (1, 1))).1, .int ((List.replicate j f).foldl mulF (((e.zip fs).take i).foldl powF (1, 1))).2]) ∧ Szf (B ^ ((e.take i).sum.toNat + j)) (M ^ ((e.take i).sum.toNat + j)) ((List.replicate j f).foldl mulF (((e.zip fs).take i).foldl powF (1, 1)))) ∧ Ex H5 H6) ⟨⟨_, g, rfl, hg5, sg⟩, Ex.refl _⟩ (fun _ _ _ _ _ => trivial) ?_ ?_
    · rintro RT BK j y σ H6 H6' hj ⟨⟨o5, g', rfl, hg', sg'⟩, e6⟩ ⟨rfl, rfl⟩
      walk_at "go"
      have c1 : (e.take i).sum.toNat + j ≤ k := by omega
      have b1 := sg'.bits (n := 5500) (m := 900) (Nat.lt_of_le_of_lt (Nat.pow_le_pow_right hM c1) hM2) (Nat.lt_of_le_of_lt (Nat.pow_le_pow_right hB c1) hB2) (Nat.pow_pos hM)
      have c2 : 1 ≤ k := by omega
      have hM1 : M < 2 ^ 5500 := Nat.lt_of_le_of_lt (by have := Nat.pow_le_pow_right hM c2; simpa using this) hM2
      have hB1 : B < 2 ^ 900 := Nat.lt_of_le_of_lt (by have := Nat.pow_le_pow_right hB c2; simpa using this) hB2
      have b2 := sf.bits (n := 5500) (m := 900) hM1 hB1 hM
      refine ⟨g', pf, _, f, rfl, hg', e6 _ _ hp5, sg'.pos, sf.pos, b1.2.le, b1.1, b2.2.le, b2.1, fun t H7 e7 h7 => ?_⟩
      walk_at "go"
      refine ⟨⟨_, t, rfl, ?_, ?_⟩, e6.trans e7⟩
      · rw [List.replicate_succ', List.foldl_append]
        exact h7
      · rw [List.replicate_succ', List.foldl_append, ← Nat.add_assoc, Nat.pow_succ, Nat.pow_succ]
        exact sg'.mul sf
    · rintro σ H6 ⟨⟨o5, g', rfl, hg', sg'⟩, e6⟩
      refine ⟨⟨_, _, _, g', rfl, ?_, ?_⟩, (e4.trans e5).trans e6⟩
      · rw [zt, List.foldl_append]
        have z : ((0 : Int) - 0 + x).toNat = x.toNat := by omega
        simpa [powF] using hg'
      · rw [zt, List.foldl_append, sumt]
        have z : ((e.take i).sum + x).toNat = (e.take i).sum.toNat + x.toNat := by omega
        rw [z]
        simpa [powF] using sg'
  rintro σ H4 ⟨⟨o3, o4, o5, g, rfl, hg, sg⟩, e4⟩
  walk_at "go"
  refine q g H4 e4 ?_
  have z : (e.zip fs).take (e.map V.int).length = e.zip fs := List.take_of_length_le (by rw [List.length_zip, List.length_map]; omega)
  rw [z] at hg
  exact hg
theorem vi_law_exponents_0 : Vis (defScope s_law_exponents) "_law_boxes" := by first | exact Or.inl (by decide +kernel) | exact Or.inr (Or.inl (by decide +kernel)) | exact Or.inr (Or.inr (by decide +kernel))
theorem vi_law_exponents_1 : Vis (defScope s_law_exponents) "_law_degree" := by first | exact Or.inl (by decide +kernel) | exact Or.inr (Or.inl (by decide +kernel)) | exact Or.inr (Or.inr (by decide +kernel))
theorem vi_law_exponents_2 : Vis (defScope s_law_exponents) "_law_found" := by first | exact Or.inl (by decide +kernel) | exact Or.inr (Or.inl (by decide +kernel)) | exact Or.inr (Or.inr (by decide +kernel))
theorem vi_law_exponents_4 : Vis (defScope s_law_exponents) "_law_longer" := by first | exact Or.inl (by decide +kernel) | exact Or.inr (Or.inl (by decide +kernel)) | exact Or.inr (Or.inr (by decide +kernel))
theorem vi_law_exponents_5 : Vis (defScope s_law_exponents) "_law_one" := by first | exact Or.inl (by decide +kernel) | exact Or.inr (Or.inl (by decide +kernel)) | exact Or.inr (Or.inr (by decide +kernel))
theorem lo_law_exponents_2 : Loc (defScope s_law_exponents) "_law_found" := by first | exact Or.inl (by decide +kernel) | exact Or.inr (by decide +kernel)
theorem lo_law_exponents_3 : Loc (defScope s_law_exponents) "_law_b" := by first | exact Or.inl (by decide +kernel) | exact Or.inr (by decide +kernel)
theorem lo_law_exponents_4 : Loc (defScope s_law_exponents) "_law_longer" := by first | exact Or.inl (by decide +kernel) | exact Or.inr (by decide +kernel)
theorem lo_law_exponents_5 : Loc (defScope s_law_exponents) "_law_one" := by first | exact Or.inl (by decide +kernel) | exact Or.inr (by decide +kernel)
theorem ok_law_exponents (T : Txt K mg base) : FnOk P w K mg base (L2.CX P w) 5 T.a_law_exponents T.d_law_exponents ["_law_boxes", "_law_degree"] (spExpsT (tabs T)) := by
  refine T.F_law_exponents.okXC T.co_law_exponents sc_law_exponents (fun vs H Q E h => ?_) (fun A outer s H vs Q E hr h => ?_)
  · obtain ⟨_, _, rfl, _⟩ := h
    rfl
  obtain ⟨n, d, rfl, hn4, hd4, hT, q⟩ := h
  refine ⟨_, (pss_cons (ps_set (i := 2) sc_law_exponents.nd rfl lo_law_exponents_2 (pe_lst (pa_cons (pe_tup pa_nil) pa_nil)))
      (pss_cons (ps_for (passes_of rfl) rfl (pi_range1 rfl T.z_range (pa_cons (uv 0 (hv := vi_law_exponents_0)) pa_nil)) (pg_name (i := 3) sc_law_exponents.nd rfl lo_law_exponents_3) (pss_cons (ps_set (i := 4) sc_law_exponents.nd rfl lo_law_exponents_4 (pe_lst pa_nil))
      (pss_cons (ps_for (passes_of rfl) rfl (ui_seq (uv 2 (hv := vi_law_exponents_2))) (pg_name (i := 5) sc_law_exponents.nd rfl lo_law_exponents_5) (pss_one (ps_expr (pe_bm PySem.F.plainAttrs_list PySem.F.slot_list_extend PySem.F.type_list_extend mt_extend (uv 4 (hv := vi_law_exponents_4)) (pa_cons (pe_lc (own := [("_law_e", 6)]) (g := gName 6) rfl sc_law_exponents.nd (pi_range1 rfl T.z_range (pa_cons (pe_op uo_sub (pe_op uo_add (uv 1 (hv := vi_law_exponents_1)) pe_int) (pe_callB (cr_sumT rfl) rfl T.z_sum boot_sum (pa_cons (uv 5 (hv := vi_law_exponents_5)) pa_nil))) pa_nil)) (blkOk_by (own := [("_law_e", 6)]) (N := N_law_exponents) (sc := defScope s_law_exponents) (by decide +kernel)) (fun _ _ _ _ _ => (pg_name (i := 6) sc_law_exponents.nd rfl (by first | exact Or.inl rfl | exact Or.inr rfl))) (fun _ _ _ _ _ => pts_nil) (fun _ _ _ _ _ => (pe_op (show OpR _ (binaryOp .Add) (uAdd K) from uo_add) (uv 5) (pe_tup (pa_cons (uv 6) pa_nil))))) pa_nil)))))
      (pss_one (ps_set (i := 2) sc_law_exponents.nd rfl lo_law_exponents_2 (uv 4 (hv := vi_law_exponents_4)))))))
      (pss_one (ps_ret (pe_sortLam (T := tabs T) (k := 1) (N := ["_law_one", "_law_e"]) (a := "_law_one") rfl T.z_sorted T.tb_law_exponents rfl (mem_law_exponents T) (hu_law_exponents T) (hr.mono (by decide)) (by exact ⟨rfl, rfl, rfl, by decide +kernel, rfl, by decide +kernel, by decide +kernel⟩) rfl rfl (fun _ _ _ _ _ => rfl) (uv 2 (hv := vi_law_exponents_2)) (fun A outer s H E f c' hr => (pe_tup (pa_cons (pe_callB (cr_sumT rfl) rfl T.z_sum boot_sum (pa_cons (uv 0) pa_nil)) (pa_cons (pe_callTy (show CallR _ (.type "tuple") (uTup K) from uk_tup) rfl T.z_tuple boot_tuple (pa_cons (pe_lc (own := [("_law_e", 1)]) (g := gName 1) rfl (show List.Nodup (["_law_one", "_law_e"] : List Str) by decide +kernel) (show PI _ _ _ (uSeq K _) from (ui_seq (uv 0))) (blkOk_by (own := [("_law_e", 1)]) (by kernel_rfl)) (fun _ _ _ _ _ => (pg_name (i := 1) (show List.Nodup (["_law_one", "_law_e"] : List Str) by decide +kernel) rfl (by first | exact Or.inl rfl | exact Or.inr rfl))) (fun _ _ _ _ _ => pts_nil) (fun _ _ _ _ _ => (pe_op uo_sub pe_int (uv 1)))) pa_nil)) pa_nil))))))))), ?_⟩
  walk_at "go"
  refine g_new fun u hu => ?_
  have e1 : Ex H (upd H u (.tup [])) := Ex.new hu
  have h1 := @upd_same H u (.tup [])
  revert e1 h1
  generalize upd H u (.tup []) = H1
  intro e1 h1
  walk_at "go"
  refine g_new fun F hF => ?_
  have e2 : Ex H1 (upd H1 F (.lst [.ref u])) := Ex.new hF
  have h2 := @upd_same H1 F (.lst [.ref u])
  revert e2 h2
  generalize upd H1 F (.lst [.ref u]) = H2
  intro e2 h2
  walk_at "go"
  refine ⟨_, rfl, by omega, by omega, ?_⟩
  refine for_itC walk_range (fun i σ H4 => (∃ F o3 o4 o5 o6, σ = [some (.int ((n : Nat) : Int)), some (.int ((d : Nat) : Int)), some (.ref F), o3, o4, o5, o6] ∧ ∃ acc, H4 F = some (.lst acc) ∧ Reps H4 ((lawE d i).map expD) acc) ∧ Ex H H4) ⟨⟨F, _, _, _, _, rfl, _, h2, ⟨.ref u, [], rfl, Rep.exp (e2 _ _ h1), rfl⟩⟩, e1.trans e2⟩ (fun _ _ _ _ _ => trivial) ?_ ?_
  · rintro RT BK i y σ H4 H4' hi ⟨⟨F, o3, o4, o5, o6, rfl, acc, ha, ra⟩, e4⟩ ⟨rfl, rfl⟩
    have l0 := lawE_len i (by omega) d hd4
    have l1 := lawE_len (i + 1) (by omega) d hd4
    have le1 : lawE d (i + 1) = ((lawE d i).map fun e => (List.range (((d : Int) + 1 - e.sum).toNat)).map fun (i : Nat) => e ++ [(i : Int)]).flatten := rfl
    rw [le1] at l1
    have lacc : acc.length = (lawE d i).length := by rw [ra.len, List.length_map]
    walk_at "go"
    refine g_new fun G hG => ?_
    have e5 : Ex H4' (upd H4' G (.lst [])) := Ex.new hG
    have h5 := @upd_same H4' G (.lst [])
    revert e5 h5
    generalize upd H4' G (.lst []) = H5
    intro e5 h5
    have ha5 := e5 _ _ ha
    walk_at "go"
    refine .inl ?_
    walk_at "go"
    refine ⟨F, rfl, ⟨_, sqL ha5⟩, ?_⟩
    refine for_itC walk_list (fun j σ H6 => (∃ o5 o6, σ = [some (.int ((n : Nat) : Int)), some (.int ((d : Nat) : Int)), some (.ref F), some (.int (0 + (i : Nat))), some (.ref G), o5, o6]) ∧ Ex H4' H6 ∧ ∃ bcc, H6 G = some (.lst bcc) ∧ Reps H6 ((((lawE d i).take j).map fun e => (List.range (((d : Int) + 1 - e.sum).toNat)).map fun (i : Nat) => e ++ [(i : Int)]).flatten.map expD) bcc) ⟨⟨_, _, rfl⟩, e5, [], h5, rfl⟩ (fun j σ H6 _ pv => sqL (pv.2.1 _ _ ha)) ?_ ?_
    · rintro RT BK j y σ H6 H6' hj ⟨⟨o5, o6, rfl⟩, e6, bcc, hb, rb⟩ ⟨rfl, hy⟩
      obtain ⟨dd, ed, rd⟩ := ra.get hy
      rw [List.getElem?_map] at ed
      cases ce : (lawE d i)[j]? with
      | none => rw [ce] at ed; cases ed
      | some e0 =>
      rw [ce] at ed
      cases ed
      obtain ⟨pe, rfl, hpe⟩ := exp_at (rd.ex e6)
      obtain ⟨q1, q2, q3⟩ := lawE_el i (by omega) d hd4 e0 (List.mem_of_getElem? ce)
      have q4 := sumI_nonneg q2
      walk_at "go"
      refine g_sumT hpe ?_
      walk_at "go"
      refine ⟨_, rfl, by omega, by omega, fun D hD => ?_⟩
      refine lc_mapE walk_range (fun w H7 v => ∃ e, ((List.range (((d : Int) + 1 - e0.sum).toNat)).map fun (i : Nat) => e0 ++ [(i : Int)])[w]? = some e ∧ Rep H7 (expD e) v) (by omega) hD (fun _ _ _ _ tk ⟨t, a, b⟩ => ⟨t, a, b.tk tk (exp_hard t)⟩) (fun _ _ => trivial) ?_ ?_
      · rintro w y H7 H8 P N hw e7 ⟨rfl, rfl⟩ k
        walk_at "go"
        refine ⟨rfl, ?_⟩
        walk_at "go"
        refine g_new fun m hm => ?_
        have e8 : Ex H8 (upd H8 m (.tup [.int (0 + (w : Nat))])) := Ex.new hm
        have h8 := @upd_same H8 m (.tup [.int (0 + (w : Nat))])
        refine g_catT (e8 _ _ (e7 _ _ hpe)) h8 (by rw [List.length_map]; show _ + 1 ≤ _; omega) fun pp H9 e9 h9 => ?_
        refine k _ _ (e8.trans e9) ⟨e0 ++ [(w : Int)], by rw [List.getElem?_map, List.getElem?_range (by omega)]; rfl, Rep.exp (by rw [List.map_append]; rw [Int.zero_add] at h9; exact h9)⟩
      intro H7 ac e7 hac hla hr2
      have rac : Reps H7 (((List.range (((d : Int) + 1 - e0.sum).toNat)).map fun (i : Nat) => e0 ++ [(i : Int)]).map expD) ac := reps_at (by rw [hla, List.length_map, List.length_range]) hr2
      have hb7 := e7 _ _ hb
      have lbcc : bcc.length ≤ 100 := by
        rw [rb.len, List.length_map]
        exact Nat.le_trans (flat_take_le _ _ j) l1
      walk_at "go"
      refine g_ext hb7 hac (by omega) ?_
      have t10 : Tk H7 (upd H7 G (.lst (bcc ++ ac))) := (But.refl G H7).upd.tkl hb7
      walk_at "go"
      refine ⟨⟨_, _, rfl⟩, (e6.trans e7).at_new hG, _, upd_same, ?_⟩
      rw [flat_take _ ce, List.map_append]
      exact ((rb.ex e7).tk t10 (exps_hard _)).append (rac.tk t10 (exps_hard _))
    · rintro σ H6 ⟨⟨o5, o6, rfl⟩, e6, bcc, hb, rb⟩
      rw [lacc, List.take_length] at rb
      walk_at "go"
      exact ⟨⟨G, _, _, _, _, rfl, bcc, hb, by rw [le1]; exact rb⟩, e4.trans e6⟩
  rintro σ H4 ⟨⟨F, o3, o4, o5, o6, rfl, acc, ha, ra⟩, e4⟩
  rw [Int.toNat_natCast] at ra
  have lacc : acc.length = (lawE d n).length := by rw [ra.len, List.length_map]
  walk_at "go"
  refine ⟨e4.ey.tabs hT, F, acc, (lawE d n).map keyE, rfl, sqL ha, by rw [List.length_map, lacc], fun d' hd' => ?_, keys_alikeE _, keys_sortableE _, fun d' hd' => ?_, ?_, ?_⟩
  · obtain ⟨t, _, rfl⟩ := List.mem_map.mp hd'
    exact key_hard _
  · obtain ⟨t, _, rfl⟩ := List.mem_map.mp hd'
    exact key_dep _
  · intro i y d' Hi hy hd' ei
    obtain ⟨dd, ed, rd⟩ := ra.get hy
    rw [List.getElem?_map] at ed hd'
    cases ct : (lawE d n)[i]? with
    | none => rw [ct] at ed; cases ed
    | some t =>
    rw [ct] at ed hd'
    cases ed
    cases hd'
    obtain ⟨pa, rfl, h2⟩ := exp_at rd
    have h2' := ei _ _ h2
    obtain ⟨q1, q2, q3⟩ := lawE_el n hn4 d hd4 t (List.mem_of_getElem? ct)
    walk_at "go"
    refine g_sumT h2' ?_
    walk_at "go"
    refine .inr (.inl ?_)
    walk_at "go"
    refine ⟨pa, rfl, ⟨_, sqT h2'⟩, fun D' hD' => ?_⟩
    refine lc_mapE walk_tup (fun j _ v => ∃ x, t[j]? = some x ∧ v = .int (0 - x)) (by rw [List.length_map]; omega) hD' (fun _ _ _ _ _ r => r) (fun H2 e2 => sqT (e2 _ _ h2')) ?_ ?_
    · rintro j y H2 H3 P N hj e2 ⟨rfl, hy⟩ k
      rw [List.getElem?_map] at hy
      cases c : t[j]? with
      | none => rw [c] at hy; cases hy
      | some x =>
        rw [c] at hy
        cases hy
        walk_at "go"
        refine ⟨rfl, ?_⟩
        walk_at "go"
        exact k _ _ (Ex.refl _) ⟨x, c, rfl⟩
    intro H8 ac e8 hac hla hr2
    have ea : ac = (negE t).map V.int := acc_intsF (by rw [hla, List.length_map]) hr2
    subst ea
    walk_at "go"
    refine g_tupOf hac fun l hl => ?_
    have e9 := e8.trans (Ex.new (o := .tup ((negE t).map V.int)) hl)
    have h9 := @upd_same H8 l (.tup ((negE t).map V.int))
    walk_at "go"
    refine g_new fun r hr => ?_
    exact ⟨e9.trans (Ex.new hr), Rep.two upd_same (Rep.i _) (Rep.tupO (by rw [upd_ne (ne_of_none h9 hr)]; exact h9) (intsReps _))⟩
  · intro l H8 ey8 hl0 hl8
    refine q l _ H8 (e4.ey.trans ey8) (e4.free hl0) hl8 ?_
    have z := (byKey_reps expD keyE ra).tk ey8.tk (exps_hard _)
    rw [← lawE_sorted hn4 hd4]
    exact z
theorem vi_law_value_0 : Vis (defScope s_law_value) "_law_own" := by first | exact Or.inl (by decide +kernel) | exact Or.inr (Or.inl (by decide +kernel)) | exact Or.inr (Or.inr (by decide +kernel))
theorem vi_law_value_1 : Vis (defScope s_law_value) "_law_numbers" := by first | exact Or.inl (by decide +kernel) | exact Or.inr (Or.inl (by decide +kernel)) | exact Or.inr (Or.inr (by decide +kernel))
theorem vi_law_value_2 : Vis (defScope s_law_value) "_law_found" := by first | exact Or.inl (by decide +kernel) | exact Or.inr (Or.inl (by decide +kernel)) | exact Or.inr (Or.inr (by decide +kernel))
theorem vi_law_value_3 : Vis (defScope s_law_value) "_law_exponents_here" := by first | exact Or.inl (by decide +kernel) | exact Or.inr (Or.inl (by decide +kernel)) | exact Or.inr (Or.inr (by decide +kernel))
theorem vi_law_value_4 : Vis (defScope s_law_value) "_law_number_here" := by first | exact Or.inl (by decide +kernel) | exact Or.inr (Or.inl (by decide +kernel)) | exact Or.inr (Or.inr (by decide +kernel))
theorem lo_law_value_2 : Loc (defScope s_law_value) "_law_found" := by first | exact Or.inl (by decide +kernel) | exact Or.inr (by decide +kernel)
theorem lo_law_value_3 : Loc (defScope s_law_value) "_law_exponents_here" := by first | exact Or.inl (by decide +kernel) | exact Or.inr (by decide +kernel)
theorem lo_law_value_4 : Loc (defScope s_law_value) "_law_number_here" := by first | exact Or.inl (by decide +kernel) | exact Or.inr (by decide +kernel)
theorem ok_law_value (T : Txt K mg base) : FnOk P w K mg base (L2.CX P w) 5 T.a_law_value T.d_law_value ["_law_own", "_law_numbers"] spValue := by
  refine T.F_law_value.okX sc_law_value (fun vs H Q E h => ?_) (fun cdv A outer s H vs Q E hr h => ?_)
  · obtain ⟨_, _, _, _, _, _, _, _, _, _, rfl, _⟩ := h
    rfl
  obtain ⟨l, r, vs, ts, fs, A0, N, B, M, k, rfl, hl, rl, rf, wf, hk, q⟩ := h
  refine ⟨_, (pss_cons (ps_set (i := 2) sc_law_value.nd rfl lo_law_value_2 (pe_tup (pa_cons pe_int (pa_cons pe_int pa_nil))))
      (pss_cons (ps_for (passes_of rfl) rfl (ui_seq (uv 0 (hv := vi_law_value_0))) (pg_tup rfl (pgs_cons (pg_name (i := 3) sc_law_value.nd rfl lo_law_value_3) (pgs_cons (pg_name (i := 4) sc_law_value.nd rfl lo_law_value_4) pgs_nil))) (pss_one (ps_set (i := 2) sc_law_value.nd rfl lo_law_value_2 (pe_callD (ok_law_plus T) (hr.mono (by decide)) rfl T.m_law_plus T.F_law_plus.kp T.b_law_plus .nil (fun σ => passAt (takes_of rfl rfl rfl rfl) σ) (pa_cons (uv 2 (hv := vi_law_value_2)) (pa_cons (pe_callD (ok_law_by T) (hr.mono (by decide)) rfl T.m_law_by T.F_law_by.kp T.b_law_by .nil (fun σ => passAt (takes_of rfl rfl rfl rfl) σ) (pa_cons (uv 4 (hv := vi_law_value_4)) (pa_cons (pe_callD (ok_law_power T) (hr.mono (by decide)) rfl T.m_law_power T.F_law_power.kp T.b_law_power .nil (fun σ => passAt (takes_of rfl rfl rfl rfl) σ) (pa_cons (uv 3 (hv := vi_law_value_3)) (pa_cons (uv 1 (hv := vi_law_value_1)) pa_nil))) pa_nil))) pa_nil))))))
      (pss_one (ps_ret (uv 2 (hv := vi_law_value_2)))))), ?_⟩
  walk_at "go"
  refine g_new fun z hz => ?_
  have e1 : Ex H (upd H z (.tup [.int 0, .int 1])) := Ex.new hz
  have hz1 := @upd_same H z (.tup [.int 0, .int 1])
  revert e1 hz1
  generalize upd H z (.tup [.int 0, .int 1]) = H1
  intro e1 hz1
  walk_at "go"
  refine .inl ?_
  walk_at "go"
  refine ⟨l, rfl, ⟨_, sqL (e1 _ _ hl)⟩, ?_⟩
  have lv : vs.length = ts.length := by rw [rl.len, List.length_map]
  refine for_itC walk_list (fun i σ H4 => (∃ o3 o4 g, σ = [some (.ref l), some (.ref r), some (.ref g), o3, o4] ∧ H4 g = some (.tup [.int ((ts.take i).foldl (stepW fs) (0, 1)).1, .int ((ts.take i).foldl (stepW fs) (0, 1)).2])) ∧ Ex H H4) ⟨⟨_, _, z, rfl, hz1⟩, e1⟩ (fun i σ H4 _ pv => sqL (pv.2 _ _ hl)) ?_ ?_
  · rintro RT BK i y σ H4 H4' hi ⟨⟨o3, o4, g, rfl, hg⟩, e4⟩ ⟨rfl, hy⟩
    obtain ⟨dd, ed, rd⟩ := rl.get hy
    rw [List.getElem?_map] at ed
    cases ct : ts[i]? with
    | none => rw [ct] at ed; cases ed
    | some t =>
    rw [ct] at ed
    cases ed
    obtain ⟨ya, pa, qa, rfl, h1, h2, h3⟩ := tp_at (rd.ex e4)
    have tm := List.mem_of_getElem? ct
    obtain ⟨w1, w2, w3, w4⟩ := wf.each t tm
    obtain ⟨z1, z2⟩ := wf.one tm
    have hM2 : M ^ k < 2 ^ 5500 := Nat.lt_of_le_of_lt (Nat.le_mul_of_pos_left _ wf.n0) wf.hN
    refine g_tup2 h1 ?_
    walk_at "go"
    refine ⟨pa, r, t.1, fs, B, M, k, rfl, h2, rf.ex e4, w2, w3, w4, wf.num, wf.b1, wf.m0, hM2, wf.hB, hk, wf.lf, fun q1 H5 e5 h5 => ?_⟩
    have b1 := z1.bits (n := 5500) (m := 900) hM2 wf.hB (Nat.pow_pos wf.m0)
    obtain ⟨p1, p2, p3⟩ := wf.num' (by rw [Nat.add_mul]; exact Nat.le_trans (by omega) (Nat.le_add_left _ _)) (w1.mono (Nat.le_mul_of_pos_right A0 (Nat.pow_pos (n := k) wf.b1)) (Nat.dvd_mul_right N (M ^ k)))
    have h3' := e5 _ _ h3
    walk_at "go"
    refine ⟨qa, q1, t.2, prodE t.1 fs, rfl, h3', h5, p1, z1.pos, p2, p3, b1.2.le, b1.1, fun q2 H6 e6 h6 => ?_⟩
    have hg' := (e5.trans e6) _ _ hg
    obtain ⟨r1, r2, r3⟩ := wf.num' (Nat.mul_le_mul_right _ (by omega)) (wf.part i (by omega))
    obtain ⟨s1, s2, s3⟩ := wf.num' (by rw [Nat.add_mul]; exact Nat.le_trans (by omega) (Nat.le_add_left _ _)) z2
    walk_at "go"
    refine ⟨g, q2, _, mulF t.2 (prodE t.1 fs), rfl, hg', h6, r1, s1, r2, r3, s2, s3, fun q3 H7 e7 h7 => ?_⟩
    walk_at "go"
    refine ⟨⟨_, _, q3, rfl, ?_⟩, ((e4.trans e5).trans e6).trans e7⟩
    rw [worth_take ct]
    exact h7
  rintro σ H4 ⟨⟨o3, o4, g, rfl, hg⟩, e4⟩
  walk_at "go"
  refine q g H4 e4 ?_
  rw [lv, List.take_length] at hg
  exact hg
theorem vi_law_gathered_0 : Vis (defScope s_law_gathered) "_law_own" := by first | exact Or.inl (by decide +kernel) | exact Or.inr (Or.inl (by decide +kernel)) | exact Or.inr (Or.inr (by decide +kernel))
theorem vi_law_gathered_1 : Vis (defScope s_law_gathered) "_law_found" := by first | exact Or.inl (by decide +kernel) | exact Or.inr (Or.inl (by decide +kernel)) | exact Or.inr (Or.inr (by decide +kernel))
theorem vi_law_gathered_2 : Vis (defScope s_law_gathered) "_law_exponents_here" := by first | exact Or.inl (by decide +kernel) | exact Or.inr (Or.inl (by decide +kernel)) | exact Or.inr (Or.inr (by decide +kernel))
theorem vi_law_gathered_3 : Vis (defScope s_law_gathered) "_law_number_here" := by first | exact Or.inl (by decide +kernel) | exact Or.inr (Or.inl (by decide +kernel)) | exact Or.inr (Or.inr (by decide +kernel))
theorem vi_law_gathered_4 : Vis (defScope s_law_gathered) "_law_some" := by first | exact Or.inl (by decide +kernel) | exact Or.inr (Or.inl (by decide +kernel)) | exact Or.inr (Or.inr (by decide +kernel))
theorem lo_law_gathered_1 : Loc (defScope s_law_gathered) "_law_found" := by first | exact Or.inl (by decide +kernel) | exact Or.inr (by decide +kernel)
theorem lo_law_gathered_2 : Loc (defScope s_law_gathered) "_law_exponents_here" := by first | exact Or.inl (by decide +kernel) | exact Or.inr (by decide +kernel)
theorem lo_law_gathered_3 : Loc (defScope s_law_gathered) "_law_number_here" := by first | exact Or.inl (by decide +kernel) | exact Or.inr (by decide +kernel)
theorem ok_law_gathered (T : Txt K mg base) : FnOk P w K mg base (L2.CX P w) 5 T.a_law_gathered T.d_law_gathered ["_law_own"] (spGathered (tabs T)) := by
  refine T.F_law_gathered.okXC T.co_law_gathered sc_law_gathered (fun vs H Q E h => ?_) (fun A outer s H vs Q E hr h => ?_)
  · obtain ⟨_, _, _, _, _, rfl, _⟩ := h
    rfl
  obtain ⟨p, vs, ts, A0, N, rfl, hp, rv0, hT, fit, hl, q⟩ := h
  refine ⟨_, (pss_cons (ps_set (i := 1) sc_law_gathered.nd rfl lo_law_gathered_1 pe_dnewT)
      (pss_cons (ps_for (passes_of rfl) rfl (ui_seq (uv 0 (hv := vi_law_gathered_0))) (pg_tup rfl (pgs_cons (pg_name (i := 2) sc_law_gathered.nd rfl lo_law_gathered_2) (pgs_cons (pg_name (i := 3) sc_law_gathered.nd rfl lo_law_gathered_3) pgs_nil))) (pss_one (ps_dput (hu_of hr) (uv 1 (hv := vi_law_gathered_1)) (uv 2 (hv := vi_law_gathered_2)) (pe_callD (ok_law_plus T) (hr.mono (by decide)) rfl T.m_law_plus T.F_law_plus.kp T.b_law_plus .nil (fun σ => passAt (takes_of rfl rfl rfl rfl) σ) (pa_cons (pe_dget2 (hu_of hr) (uv 1 (hv := vi_law_gathered_1)) (uv 2 (hv := vi_law_gathered_2)) (pe_tup (pa_cons pe_int (pa_cons pe_int pa_nil))) ⟨rfl, rfl, rfl, rfl⟩) (pa_cons (uv 3 (hv := vi_law_gathered_3)) pa_nil))) rfl)))
      (pss_cons (ps_lock (ps_setLc (i := 4) (own := [("_law_exponents_here", 2), ("_law_number_here", 3)]) (g := gTup K 2 (gCons (gName 2) (gCons (gName 3) gNil))) rfl sc_law_gathered.nd rfl rfl (sw_true rfl rfl rfl (by decide +kernel)) (pi_itemsT (uv 1 (hv := vi_law_gathered_1))) (blkOk_by (own := [("_law_exponents_here", 2), ("_law_number_here", 3)]) (N := N_law_gathered) (sc := defScope s_law_gathered) (by decide +kernel)) (fun _ _ _ _ _ => (pg_tup rfl (pgs_cons (pg_name (i := 2) sc_law_gathered.nd rfl (by first | exact Or.inl rfl | exact Or.inr rfl)) (pgs_cons (pg_name (i := 3) sc_law_gathered.nd rfl (by first | exact Or.inl rfl | exact Or.inr rfl)) pgs_nil)))) (fun _ _ _ _ _ => (pts_one (pt_cmpR op_ne (pe_ix (show IxR _ (uIx K) from ux_seq) (uv 3) pe_int (fun _ _ => rfl)) pe_int (nomark _)))) (fun _ _ _ _ _ => (pe_tup (pa_cons (uv 2) (pa_cons (uv 3) pa_nil))))))
      (pss_one (ps_ret (pe_sortLam (T := tabs T) (k := 1) (N := ["_law_term", "_law_e"]) (a := "_law_term") rfl T.z_sorted T.tb_law_gathered rfl (mem_law_gathered T) (hu_law_gathered T) (hr.mono (by decide)) (by exact ⟨rfl, rfl, rfl, by decide +kernel, rfl, by decide +kernel, by decide +kernel⟩) rfl rfl (fun _ _ _ _ _ => rfl) (uv 4 (hv := vi_law_gathered_4)) (fun A outer s H E f c' hr => (pe_tup (pa_cons (pe_callB (cr_sumT rfl) rfl T.z_sum boot_sum (pa_cons (pe_ix (show IxR _ (uIx K) from ux_seq) (uv 0) pe_int (fun _ _ => rfl)) pa_nil)) (pa_cons (pe_callTy (show CallR _ (.type "tuple") (uTup K) from uk_tup) rfl T.z_tuple boot_tuple (pa_cons (pe_lc (own := [("_law_e", 1)]) (g := gName 1) rfl (show List.Nodup (["_law_term", "_law_e"] : List Str) by decide +kernel) (show PI _ _ _ (uSeq K _) from (ui_seq (pe_ix (show IxR _ (uIx K) from ux_seq) (uv 0) pe_int (fun _ _ => rfl)))) (blkOk_by (own := [("_law_e", 1)]) (by kernel_rfl)) (fun _ _ _ _ _ => (pg_name (i := 1) (show List.Nodup (["_law_term", "_law_e"] : List Str) by decide +kernel) rfl (by first | exact Or.inl rfl | exact Or.inr rfl))) (fun _ _ _ _ _ => pts_nil) (fun _ _ _ _ _ => (pe_op uo_sub pe_int (uv 1)))) pa_nil)) pa_nil)))))))))), ?_⟩
  walk_at "go"
  refine g_dnewT fun d hd => ?_
  have e2 : Ex H (upd H d (.dT [])) := Ex.new hd
  have hd2 := @upd_same H d (.dT [])
  revert e2 hd2
  generalize upd H d (.dT []) = H3
  intro e2 hd3
  have rv := rv0.ex e2
  have hp3 := e2 _ _ hp
  walk_at "go"
  refine .inl ?_
  walk_at "go"
  refine ⟨p, rfl, ⟨_, sqL hp3⟩, ?_⟩
  have lv : vs.length = ts.length := by rw [rv.len, List.length_map]
  refine for_itC walk_list (fun i σ H4 => (∃ o4 o5, σ = [some (.ref p), some (.ref d), o4, o5, none]) ∧ But d H3 H4 ∧ ∃ kvs, H4 d = some (.dT kvs) ∧ KvT H4 kvs (dictP (ts.take i))) ⟨⟨_, _, rfl⟩, But.refl _ _, [], hd3, .nil⟩ (fun i σ H4 _ pv => sqL (pv.2.1 _ _ (ne_of hp3 hd3 (fun z => nomatch z)) hp3)) ?_ ?_
  · rintro RT BK i y σ H4 H4' hi ⟨⟨o4, o5, rfl⟩, b4, kvs, hd4, kv⟩ ⟨rfl, hy⟩
    obtain ⟨dd, ed, rd⟩ := rv.get hy
    rw [List.getElem?_map] at ed
    cases ct : ts[i]? with
    | none => rw [ct] at ed; cases ed
    | some t =>
    rw [ct] at ed
    cases ed
    obtain ⟨ya, pa, qa, rfl, h1, h2, h3⟩ := tp_at rd
    have t4 : Tk H3 H4' := b4.tk hd3 (fun _ z => nomatch z)
    have h1' := t4 _ _ h1
    have h2' := t4 _ _ h2
    have h3' := t4 _ _ h3
    refine g_tup2 h1' ?_
    walk_at "go"
    refine ⟨d, rfl, .inr ⟨kvs, .inl hd4⟩, ?_⟩
    walk_at "go"
    refine g_new fun z hz => ?_
    have e5 : Ex H4' (upd H4' z (.tup [.int 0, .int 1])) := Ex.new hz
    have hz5 := @upd_same H4' z (.tup [.int 0, .int 1])
    revert e5 hz5
    generalize upd H4' z (.tup [.int 0, .int 1]) = H5
    intro e5 hz5
    have hd5 := e5 _ _ hd4
    have h2'' := e5 _ _ h2'
    have h3'' := e5 _ _ h3'
    have kv5 := kv.tk e5.tk
    have get : ∃ qg, (valV kvs (inlK t.1)).getD (.ref z) = .ref qg ∧ H5 qg = some (.tup [.int ((getP (dictP (ts.take i)) t.1).getD (0, 1)).1, .int ((getP (dictP (ts.take i)) t.1).getD (0, 1)).2]) := by
      rcases kv5.val (e := t.1) with ⟨g1, g2⟩ | ⟨qg, g, g1, g2, g3⟩
      · rw [g1, g2]
        exact ⟨z, rfl, hz5⟩
      · rw [g1, g2]
        exact ⟨qg, rfl, g3⟩
    obtain ⟨qg, eg, hqg⟩ := get
    refine ⟨_, DGet.t (k := inlK t.1) hd5 (by rw [inlK_kV]; exact h2''), ?_⟩
    rw [eg]
    walk_at "go"
    have li : (ts.take i).length = i := by rw [List.length_take]; omega
    have s1 := getP_sz (dictP_sz (A := A0) (N := N) (ts := ts.take i) fun u hu => fit.each u (List.mem_of_mem_take hu)) t.1
    rw [li] at s1
    obtain ⟨p1, p2, p3⟩ := fit.num (Nat.mul_le_mul_right _ (by omega)) s1
    obtain ⟨r1, r2, r3⟩ := fit.num (by rw [Nat.add_mul]; exact Nat.le_trans (by omega) (Nat.le_add_left _ _)) (fit.each t (List.mem_of_getElem? ct))
    refine ⟨qg, qa, _, t.2, rfl, hqg, h3'', p1, r1, p2, p3, r2, r3, fun r H6 e6 hr6 => ?_⟩
    walk_at "go"
    have hd6 := e6 _ _ hd5
    have lk : kvs.length ≤ 100000 := by
      have := dictP_len (ts.take i)
      have := kv.len
      have := fit.len
      omega
    refine ⟨d, _, rfl, DPut.t (k := inlK t.1) hd6 (by rw [inlK_kV]; exact e6 _ _ h2'') (Nat.lt_of_le_of_lt lk (by decide)), ?_⟩
    have bb : But d H4' (upd H6 d (.dT (putK kvs (inlK t.1) (.ref r)))) := ((e5.trans e6).but d).upd
    refine ⟨⟨_, _, rfl⟩, b4.trans bb, _, upd_same, ?_⟩
    rw [dictP_take ct]
    exact KvT.put (by rw [upd_ne (ne_of hr6 hd6 (fun z => nomatch z))]; exact hr6) (kv.tk (bb.tk hd4 (fun _ z => nomatch z)))
  rintro σ H4 ⟨⟨o4, o5, rfl⟩, b4, kvs, hd4, kv⟩
  rw [lv, List.take_length] at kv
  walk_at "go"
  refine ⟨d, .dT kvs, hd4, trivial, fun od => ?_⟩
  obtain ⟨H5, eq5, b5, hd5⟩ := st_atB H4 d (.frz od (.dT kvs))
  rw [eq5]
  have kv5 := kv.tk (b5.tk hd4 (fun _ z => nomatch z))
  walk_at "go"
  refine ⟨d, od, kvs, rfl, hd5, ?_⟩
  intro D hD
  refine lc_it walk_itemsT (fun i H6 => Ex H5 H6 ∧ ∃ acc, H6 D = some (.lst acc) ∧ Reps H6 ((nzP ((dictP ts).take i)).map tpD) acc) ⟨Ex.new hD, [], upd_same, rfl⟩ (fun i H6 _ pv => pv.1 _ _ hd5) ?_ ?_
  · rintro i y H6 H7 hi ⟨e6, acc, ha, ra⟩ ⟨T6, k, v, q6, hk, rfl, hT6, hq6, rfl⟩
    obtain ⟨t, ct, rfl, r, rfl, hr⟩ := kv5.at hk
    have e7 : Ex H6 (upd H6 T6 (.tup [.ref q6, .ref r])) := Ex.new hT6
    have h7 := @upd_same H6 T6 (.tup [.ref q6, .ref r])
    revert e7 h7
    generalize upd H6 T6 (.tup [.ref q6, .ref r]) = H7
    intro e7 h7
    have hr7 := (e6.trans e7) _ _ hr
    have hq7 := e7 _ _ hq6
    rw [inlK_kV] at hq7
    have ha7 := e7 _ _ ha
    have ra7 := ra.ex e7
    have lacc : acc.length ≤ 100000 := by
      have l1 := ra.len
      rw [List.length_map] at l1
      have l2 : (nzP ((dictP ts).take i)).length ≤ ((dictP ts).take i).length := List.length_filter_le _ _
      have l3 := dictP_len ts
      have l4 := fit.len
      rw [List.length_take] at l2
      omega
    refine g_tup2 h7 ?_
    walk_at "go"
    refine ⟨rfl, ?_⟩
    walk_at "go"
    by_cases c : t.2.1 = 0
    · rw [if_neg (by rw [c]; decide)]
      refine ⟨e6.trans e7, acc, ha7, ?_⟩
      rw [nzP_take ct, if_pos c, List.append_nil]
      exact ra7
    · rw [if_pos (by rw [decide_eq_false (fun z => c (by injection z))]; rfl)]
      walk_at "go"
      refine g_new fun m hm => ?_
      have e8 : Ex H7 (upd H7 m (.tup [.ref q6, .ref r])) := Ex.new hm
      have h8 := @upd_same H7 m (.tup [.ref q6, .ref r])
      revert e8 h8
      generalize upd H7 m (.tup [.ref q6, .ref r]) = H8
      intro e8 h8
      have ha8 := e8 _ _ ha7
      have t9 : Tk H8 (upd H8 D (.lst (acc ++ [.ref m]))) := (But.refl D H8).upd.tkl ha8
      refine ⟨acc, ha8, Nat.lt_of_le_of_lt lacc (by decide), ((e6.trans e7).trans e8).at_new hD, _, upd_same, ?_⟩
      rw [nzP_take ct, if_neg c, List.map_append]
      exact ((ra7.ex e8).tk t9 (tps_hard _)).append ⟨_, [], rfl, Rep.tp (t9 _ _ h8) (t9 _ _ (e8 _ _ hq7)) (t9 _ _ (e8 _ _ hr7)), rfl⟩
  rintro H6 ⟨e6, acc, ha, ra⟩
  rw [kv.len, List.take_length] at ra
  have hd6 := e6 _ _ hd5
  walk_at "go"
  refine ⟨hd6, ?_⟩
  obtain ⟨H7, eq7, b7, hd7⟩ := st_atB H6 d (.dT kvs)
  rw [eq7]
  have nD : D ≠ d := ne_of ha hd6 (fun z => nomatch z)
  have ha7 := b7 _ _ nD ha
  have ra7 := ra.tk (b7.tk hd6 (fun _ z => nomatch z)) (tps_hard _)
  have e17 : Ex H H7 := Ex.of_but ((((e2.but d).trans b4).trans b5).trans ((e6.but d).trans b7)) hd
  have la : acc.length = (nzP (dictP ts)).length := by rw [ra.len, List.length_map]
  walk_at "go"
  dsimp only
  refine ⟨e17.ey.tabs hT, D, acc, (nzP (dictP ts)).map (fun t => keyE t.1), rfl, sqL ha7, by rw [List.length_map, la], fun d' hd' => ?_, keys_alike _, keys_sortable _, fun d' hd' => ?_, ?_, ?_⟩
  · obtain ⟨t, _, rfl⟩ := List.mem_map.mp hd'
    exact key_hard _
  · obtain ⟨t, _, rfl⟩ := List.mem_map.mp hd'
    exact key_dep _
  · intro i y d' Hi hy hd' ei
    obtain ⟨dd, ed, rd⟩ := ra7.get hy
    rw [List.getElem?_map] at ed hd'
    cases ct : (nzP (dictP ts))[i]? with
    | none => rw [ct] at ed; cases ed
    | some t =>
    rw [ct] at ed hd'
    cases ed
    cases hd'
    obtain ⟨ya, pa, qa, rfl, h1, h2, h3⟩ := tp_at rd
    have h1' := ei _ _ h1
    have h2' := ei _ _ h2
    obtain ⟨u, hu, eu⟩ := dictP_keys t (List.mem_filter.mp (List.mem_of_getElem? ct)).1
    have lu := hl u hu
    rw [eu] at lu
    walk_at "go"
    refine g_sumT h2' ?_
    walk_at "go"
    refine .inr (.inl ?_)
    unfold iTup
    walk_at "go"
    refine ⟨pa, rfl, ⟨_, sqT h2'⟩, fun D' hD' => ?_⟩
    refine lc_mapE walk_tup (fun j _ v => ∃ x, t.1[j]? = some x ∧ v = .int (0 - x)) (by rw [List.length_map]; omega) hD' (fun _ _ _ _ _ r => r) (fun H2 e2 => sqT (e2 _ _ h2')) ?_ ?_
    · rintro j y H2 H3 P N hj e2 ⟨rfl, hy⟩ k
      rw [List.getElem?_map] at hy
      cases c : t.1[j]? with
      | none => rw [c] at hy; cases hy
      | some x =>
        rw [c] at hy
        cases hy
        walk_at "go"
        refine ⟨rfl, ?_⟩
        walk_at "go"
        exact k _ _ (Ex.refl _) ⟨x, c, rfl⟩
    intro H8 ac e8 hac hla hr2
    have ea : ac = (negE t.1).map V.int := acc_intsF (by rw [hla, List.length_map]) hr2
    subst ea
    walk_at "go"
    refine g_tupOf hac fun l hl => ?_
    have e9 := e8.trans (Ex.new (o := .tup ((negE t.1).map V.int)) hl)
    have h9 := @upd_same H8 l (.tup ((negE t.1).map V.int))
    walk_at "go"
    refine g_new fun r hr => ?_
    exact ⟨e9.trans (Ex.new hr), Rep.two upd_same (Rep.i _) (Rep.tupO (by rw [upd_ne (ne_of_none h9 hr)]; exact h9) (intsReps _))⟩
  · intro l H8 ey8 hl0 hl8
    exact q l _ H8 (e17.ey.trans ey8) (e17.free hl0) hl8 ((byKey_reps tpD (fun t : Tp => keyE t.1) ra7).tk ey8.tk (tps_hard _))
theorem vi_Poly_init_0 : Vis (defScope s_Poly_init) "self" := by first | exact Or.inl (by decide +kernel) | exact Or.inr (Or.inl (by decide +kernel)) | exact Or.inr (Or.inr (by decide +kernel))
theorem vi_Poly_init_1 : Vis (defScope s_Poly_init) "boxes" := by first | exact Or.inl (by decide +kernel) | exact Or.inr (Or.inl (by decide +kernel)) | exact Or.inr (Or.inr (by decide +kernel))
theorem vi_Poly_init_2 : Vis (defScope s_Poly_init) "terms" := by first | exact Or.inl (by decide +kernel) | exact Or.inr (Or.inl (by decide +kernel)) | exact Or.inr (Or.inr (by decide +kernel))
theorem vi_Poly_init_3 : Vis (defScope s_Poly_init) "found" := by first | exact Or.inl (by decide +kernel) | exact Or.inr (Or.inl (by decide +kernel)) | exact Or.inr (Or.inr (by decide +kernel))
theorem vi_Poly_init_4 : Vis (defScope s_Poly_init) "exponents" := by first | exact Or.inl (by decide +kernel) | exact Or.inr (Or.inl (by decide +kernel)) | exact Or.inr (Or.inr (by decide +kernel))
theorem vi_Poly_init_5 : Vis (defScope s_Poly_init) "number" := by first | exact Or.inl (by decide +kernel) | exact Or.inr (Or.inl (by decide +kernel)) | exact Or.inr (Or.inr (by decide +kernel))
theorem vi_Poly_init_6 : Vis (defScope s_Poly_init) "some" := by first | exact Or.inl (by decide +kernel) | exact Or.inr (Or.inl (by decide +kernel)) | exact Or.inr (Or.inr (by decide +kernel))
theorem lo_Poly_init_3 : Loc (defScope s_Poly_init) "found" := by first | exact Or.inl (by decide +kernel) | exact Or.inr (by decide +kernel)
theorem lo_Poly_init_4 : Loc (defScope s_Poly_init) "exponents" := by first | exact Or.inl (by decide +kernel) | exact Or.inr (by decide +kernel)
theorem lo_Poly_init_5 : Loc (defScope s_Poly_init) "number" := by first | exact Or.inl (by decide +kernel) | exact Or.inr (by decide +kernel)
theorem kb_Poly (T : Txt K mg base) : ∃ its : List Value, KBn K T.d_Poly_init ["self", "boxes", "terms"] 2 ["terms"] (fun us ws => us ++ ws) (fun vs zs => vs ++ zs) :=
  FunD.kbindsD (ps := ["self", "boxes", "terms"]) T.F_Poly_init 2 ["terms"] (fun us _ ws => us ++ ws) (by simp) (fun r1 _ r2 => r1.append r2) fun _ _ _ _ _ _ _ us its ws h1 h2 h3 => match us, h1, its, h2, ws, h3 with
    | [_, _], _, [_], _, [_], _ => ⟨_, rfl, rfl⟩
theorem ok_Poly_init (T : Txt K mg base) : FnOk P w K mg base (L2.CX P w) 5 T.a_Poly_init T.d_Poly_init ["self", "boxes", "terms"] (spPolyInit (tabs T) T.a_Poly) := by
  refine T.F_Poly_init.okC T.co_Poly_init sc_Poly_init (fun vs H Q E h => ?_) (fun A outer s H vs Q E hr h => ?_)
  · obtain ⟨_, _, _, _, _, _, _, rfl, _⟩ := h
    rfl
  obtain ⟨p, dx, n, x, ts, A0, N, rfl, hp, hT, hx, fit, hl, q⟩ := h
  refine ⟨_, (pss_cons (ps_fld (uv 0 (hv := vi_Poly_init_0)) (uv 1 (hv := vi_Poly_init_1)) rfl)
      (pss_cons (ps_set (i := 3) sc_Poly_init.nd rfl lo_Poly_init_3 pe_dnewT)
      (pss_cons (ps_for (passes_of rfl) rfl (ui_seq (pe_orT (uv 2 (hv := vi_Poly_init_2)) (pe_one (pe_tup pa_nil)))) (pg_tup rfl (pgs_cons (pg_name (i := 4) sc_Poly_init.nd rfl lo_Poly_init_4) (pgs_cons (pg_name (i := 5) sc_Poly_init.nd rfl lo_Poly_init_5) pgs_nil))) (pss_one (ps_dput (hu_of hr) (uv 3 (hv := vi_Poly_init_3)) (uv 4 (hv := vi_Poly_init_4)) (pe_callD (ok_added T) (hr.mono (by decide)) rfl T.m_added T.F_added.kp T.b_added .nil (fun σ => passAt (takes_of rfl rfl rfl rfl) σ) (pa_cons (pe_dget2 (hu_of hr) (uv 3 (hv := vi_Poly_init_3)) (uv 4 (hv := vi_Poly_init_4)) (pe_tup (pa_cons pe_int (pa_cons pe_int pa_nil))) ⟨rfl, rfl, rfl, rfl⟩) (pa_cons (uv 5 (hv := vi_Poly_init_5)) pa_nil))) rfl)))
      (pss_cons (ps_lock (ps_setLc (i := 6) (own := [("exponents", 4), ("number", 5)]) (g := gTup K 2 (gCons (gName 4) (gCons (gName 5) gNil))) rfl sc_Poly_init.nd rfl rfl (sw_true rfl rfl rfl (by decide +kernel)) (pi_itemsT (uv 3 (hv := vi_Poly_init_3))) (blkOk_by (own := [("exponents", 4), ("number", 5)]) (N := N_Poly_init) (sc := defScope s_Poly_init) (by decide +kernel)) (fun _ _ _ _ _ => (pg_tup rfl (pgs_cons (pg_name (i := 4) sc_Poly_init.nd rfl (by first | exact Or.inl rfl | exact Or.inr rfl)) (pgs_cons (pg_name (i := 5) sc_Poly_init.nd rfl (by first | exact Or.inl rfl | exact Or.inr rfl)) pgs_nil)))) (fun _ _ _ _ _ => (pts_one (pt_cmpR op_ne (pe_ix (show IxR _ (uIx K) from ux_seq) (uv 5) pe_int (fun _ _ => rfl)) pe_int (nomark _)))) (fun _ _ _ _ _ => (pe_tup (pa_cons (uv 4) (pa_cons (uv 5) pa_nil))))))
      (pss_one (ps_fld (uv 0 (hv := vi_Poly_init_0)) (pe_sortLam (T := tabs T) (k := 1) (N := ["term"]) (a := "term") rfl T.z_sorted T.tb_Poly_init rfl (mem_Poly_init T) (hu_Poly_init T) (hr.mono (by decide)) (by exact ⟨rfl, rfl, rfl, by decide +kernel, rfl, by decide +kernel, by decide +kernel⟩) rfl rfl (fun _ _ _ _ _ => rfl) (uv 6 (hv := vi_Poly_init_6)) (fun A outer s H E f c' hr => (pe_callD (ok_place_in_order T) (hr.mono (by decide)) rfl T.m_place_in_order T.F_place_in_order.kp T.b_place_in_order .nil (fun _ => passAt0) (pa_cons (pe_ix (show IxR _ (uIx K) from ux_seq) (uv 0) pe_int (fun _ _ => rfl)) pa_nil)))) rfl)))))), ?_⟩
  walk_at "go"
  refine g_sfldO hp T.cl_Poly T.na_Poly_boxes rfl flPo1 ?_
  obtain ⟨H1, eq1, b1, hp1⟩ := st_by (T := tabs T) (.ins T.a_Poly dx [("boxes", .int n)]) hp trivial
  rw [eq1]
  have hx1 := hx.by_ b1 hp
  walk_at "go"
  refine g_dnewT fun d hd => ?_
  have e2 : Ex H1 (upd H1 d (.dT [])) := Ex.new hd
  have hd2 := @upd_same H1 d (.dT [])
  have hx2 := hx1.ey (T := tabs T) e2.ey
  revert e2 hd2 hx2
  generalize upd H1 d (.dT []) = H2
  intro e2 hd2 hx2
  walk_at "go"
  refine g_orTerms hx2 rfl fit.len fun J G H3 vs wk hG e3 rv => ?_
  have hd3 := e3 _ _ hd2
  have lv : vs.length = ts.length := by rw [rv.len, List.length_map]
  refine for_itC wk (fun i σ H4 => (∃ o4 o5, σ = [some (.ref p), some (.int n), some x, some (.ref d), o4, o5, none]) ∧ But d H3 H4 ∧ ∃ kvs, H4 d = some (.dT kvs) ∧ KvT H4 kvs (dictP (ts.take i))) ⟨⟨_, _, rfl⟩, But.refl _ _, [], hd3, .nil⟩ (fun i σ H4 _ pv => hG d [] H4 hd3 pv.2.1) ?_ ?_
  · rintro RT BK i y σ H4 H4' hi ⟨⟨o4, o5, rfl⟩, b4, kvs, hd4, kv⟩ ⟨rfl, hy⟩
    obtain ⟨dd, ed, rd⟩ := rv.get hy
    rw [List.getElem?_map] at ed
    cases ct : ts[i]? with
    | none => rw [ct] at ed; cases ed
    | some t =>
    rw [ct] at ed
    cases ed
    obtain ⟨ya, pa, qa, rfl, h1, h2, h3⟩ := tp_at rd
    have t4 : Tk H3 H4' := b4.tk hd3 (fun _ z => nomatch z)
    have h1' := t4 _ _ h1
    have h2' := t4 _ _ h2
    have h3' := t4 _ _ h3
    refine g_tup2 h1' ?_
    walk_at "go"
    refine ⟨d, rfl, .inr ⟨kvs, .inl hd4⟩, ?_⟩
    walk_at "go"
    refine g_new fun z hz => ?_
    have e5 : Ex H4' (upd H4' z (.tup [.int 0, .int 1])) := Ex.new hz
    have hz5 := @upd_same H4' z (.tup [.int 0, .int 1])
    revert e5 hz5
    generalize upd H4' z (.tup [.int 0, .int 1]) = H5
    intro e5 hz5
    have hd5 := e5 _ _ hd4
    have h2'' := e5 _ _ h2'
    have h3'' := e5 _ _ h3'
    have kv5 := kv.tk e5.tk
    have get : ∃ qg, (valV kvs (inlK t.1)).getD (.ref z) = .ref qg ∧ H5 qg = some (.tup [.int ((getP (dictP (ts.take i)) t.1).getD (0, 1)).1, .int ((getP (dictP (ts.take i)) t.1).getD (0, 1)).2]) := by
      rcases kv5.val (e := t.1) with ⟨g1, g2⟩ | ⟨qg, g, g1, g2, g3⟩
      · rw [g1, g2]
        exact ⟨z, rfl, hz5⟩
      · rw [g1, g2]
        exact ⟨qg, rfl, g3⟩
    obtain ⟨qg, eg, hqg⟩ := get
    refine ⟨_, DGet.t (k := inlK t.1) hd5 (by rw [inlK_kV]; exact h2''), ?_⟩
    rw [eg]
    walk_at "go"
    have li : (ts.take i).length = i := by rw [List.length_take]; omega
    have s1 := getP_sz (dictP_sz (A := A0) (N := N) (ts := ts.take i) fun u hu => fit.each u (List.mem_of_mem_take hu)) t.1
    rw [li] at s1
    obtain ⟨p1, p2, p3⟩ := fit.num (Nat.mul_le_mul_right _ (by omega)) s1
    obtain ⟨r1, r2, r3⟩ := fit.num (by rw [Nat.add_mul]; exact Nat.le_trans (by omega) (Nat.le_add_left _ _)) (fit.each t (List.mem_of_getElem? ct))
    refine ⟨qg, qa, _, t.2, rfl, hqg, h3'', p1, r1, p2, p3, r2, r3, fun r H6 e6 hr6 => ?_⟩
    walk_at "go"
    have hd6 := e6 _ _ hd5
    have lk : kvs.length ≤ 100000 := by
      have := dictP_len (ts.take i)
      have := kv.len
      have := fit.len
      omega
    refine ⟨d, _, rfl, DPut.t (k := inlK t.1) hd6 (by rw [inlK_kV]; exact e6 _ _ h2'') (Nat.lt_of_le_of_lt lk (by decide)), ?_⟩
    have bb : But d H4' (upd H6 d (.dT (putK kvs (inlK t.1) (.ref r)))) := ((e5.trans e6).but d).upd
    refine ⟨⟨_, _, rfl⟩, b4.trans bb, _, upd_same, ?_⟩
    rw [dictP_take ct]
    exact KvT.put (by rw [upd_ne (ne_of hr6 hd6 (fun z => nomatch z))]; exact hr6) (kv.tk (bb.tk hd4 (fun _ z => nomatch z)))
  rintro σ H4 ⟨⟨o4, o5, rfl⟩, b4, kvs, hd4, kv⟩
  rw [List.take_length] at kv
  walk_at "go"
  refine ⟨d, .dT kvs, hd4, trivial, fun od => ?_⟩
  obtain ⟨H5, eq5, b5, hd5⟩ := st_atB H4 d (.frz od (.dT kvs))
  rw [eq5]
  have kv5 := kv.tk (b5.tk hd4 (fun _ z => nomatch z))
  walk_at "go"
  refine ⟨d, od, kvs, rfl, hd5, ?_⟩
  intro D hD
  refine lc_it walk_itemsT (fun i H6 => Ex H5 H6 ∧ ∃ acc, H6 D = some (.lst acc) ∧ Reps H6 ((nzP ((dictP ts).take i)).map tpD) acc) ⟨Ex.new hD, [], upd_same, rfl⟩ (fun i H6 _ pv => pv.1 _ _ hd5) ?_ ?_
  · rintro i y H6 H7 hi ⟨e6, acc, ha, ra⟩ ⟨T6, k, v, q6, hk, rfl, hT6, hq6, rfl⟩
    obtain ⟨t, ct, rfl, r, rfl, hr⟩ := kv5.at hk
    have e7 : Ex H6 (upd H6 T6 (.tup [.ref q6, .ref r])) := Ex.new hT6
    have h7 := @upd_same H6 T6 (.tup [.ref q6, .ref r])
    revert e7 h7
    generalize upd H6 T6 (.tup [.ref q6, .ref r]) = H7
    intro e7 h7
    have hr7 := (e6.trans e7) _ _ hr
    have hq7 := e7 _ _ hq6
    rw [inlK_kV] at hq7
    have ha7 := e7 _ _ ha
    have ra7 := ra.ex e7
    have lacc : acc.length ≤ 100000 := by
      have l1 := ra.len
      rw [List.length_map] at l1
      have l2 : (nzP ((dictP ts).take i)).length ≤ ((dictP ts).take i).length := List.length_filter_le _ _
      have l3 := dictP_len ts
      have l4 := fit.len
      rw [List.length_take] at l2
      omega
    refine g_tup2 h7 ?_
    walk_at "go"
    refine ⟨rfl, ?_⟩
    walk_at "go"
    by_cases c : t.2.1 = 0
    · rw [if_neg (by rw [c]; decide)]
      refine ⟨e6.trans e7, acc, ha7, ?_⟩
      rw [nzP_take ct, if_pos c, List.append_nil]
      exact ra7
    · rw [if_pos (by rw [decide_eq_false (fun z => c (by injection z))]; rfl)]
      walk_at "go"
      refine g_new fun m hm => ?_
      have e8 : Ex H7 (upd H7 m (.tup [.ref q6, .ref r])) := Ex.new hm
      have h8 := @upd_same H7 m (.tup [.ref q6, .ref r])
      revert e8 h8
      generalize upd H7 m (.tup [.ref q6, .ref r]) = H8
      intro e8 h8
      have ha8 := e8 _ _ ha7
      have t9 : Tk H8 (upd H8 D (.lst (acc ++ [.ref m]))) := (But.refl D H8).upd.tkl ha8
      refine ⟨acc, ha8, Nat.lt_of_le_of_lt lacc (by decide), ((e6.trans e7).trans e8).at_new hD, _, upd_same, ?_⟩
      rw [nzP_take ct, if_neg c, List.map_append]
      exact ((ra7.ex e8).tk t9 (tps_hard _)).append ⟨_, [], rfl, Rep.tp (t9 _ _ h8) (t9 _ _ (e8 _ _ hq7)) (t9 _ _ (e8 _ _ hr7)), rfl⟩
  rintro H6 ⟨e6, acc, ha, ra⟩
  rw [kv.len, List.take_length] at ra
  have hd6 := e6 _ _ hd5
  walk_at "go"
  refine ⟨hd6, ?_⟩
  obtain ⟨H7, eq7, b7, hd7⟩ := st_atB H6 d (.dT kvs)
  rw [eq7]
  have nD : D ≠ d := ne_of ha hd6 (fun z => nomatch z)
  have ha7 := b7 _ _ nD ha
  have ra7 := ra.tk (b7.tk hd6 (fun _ z => nomatch z)) (tps_hard _)
  have e17 : Ex H1 H7 := Ex.of_but (((((e2.trans e3).but d).trans b4).trans b5).trans ((e6.but d).trans b7)) hd
  have hp7 := e17 _ _ hp1
  have by7 : By (tabs T) p H H7 := b1.trans (e17.by_ p)
  have la : acc.length = (nzP (dictP ts)).length := by rw [ra.len, List.length_map]
  walk_at "go"
  dsimp only
  refine g_sfld ?_
  refine g_sortL ?_
  refine g_var rfl ⟨by7.tabs hT, D, acc, (nzP (dictP ts)).map (fun t => keyE t.1), rfl, sqL ha7, by rw [List.length_map, la], fun d' hd' => ?_, keys_alike _, keys_sortable _, fun d' hd' => ?_, ?_, ?_⟩
  · obtain ⟨t, _, rfl⟩ := List.mem_map.mp hd'
    exact key_hard _
  · obtain ⟨t, _, rfl⟩ := List.mem_map.mp hd'
    exact key_dep _
  · intro i y d' Hi hy hd' ei
    obtain ⟨dd, ed, rd⟩ := ra7.get hy
    rw [List.getElem?_map] at ed hd'
    cases ct : (nzP (dictP ts))[i]? with
    | none => rw [ct] at ed; cases ed
    | some t =>
    rw [ct] at ed hd'
    cases ed
    cases hd'
    obtain ⟨ya, pa, qa, rfl, h1, h2, h3⟩ := tp_at rd
    have h1' := ei _ _ h1
    have h2' := ei _ _ h2
    walk_at "go"
    obtain ⟨u, hu, eu⟩ := dictP_keys t (List.mem_filter.mp (List.mem_of_getElem? ct)).1
    exact ⟨pa, t.1, rfl, h2', by rw [← eu]; exact hl u hu, fun q' H' ex rp => ⟨ex, rp⟩⟩
  · intro l H8 ey8 hl0 hl8
    have hp8 := ey8 _ _ hp7
    walk_at "go"
    refine g_sfldO hp8 T.cl_Poly T.na_Poly_kept rfl flPo2 ?_
    obtain ⟨H9, eq9, b9, hp9⟩ := st_by (T := tabs T) (.ins T.a_Poly dx [("boxes", .int n), ("kept", .ref l)]) hp8 trivial
    rw [eq9]
    refine q H9 ((by7.trans (ey8.by_ p)).trans b9) ⟨dx, l, _, hp9, b9.get hp8 hl8 (fun z => nomatch z), ?_⟩ fun F hF C' dx' n' l' hl' => ?_
    rotate_left
    · rw [hp9] at hl'
      cases hl'
      rintro rfl
      exact hF (by7.free (fun z => by rw [z, hp7] at hl0; cases hl0) hl0)
    exact (byKey_reps tpD (fun t : Tp => keyE t.1) ra7).tk (ey8.tk.trans (b9.tk hp8 trivial)) (tps_hard _)
theorem vi_law_poly_0 : Vis (defScope s_law_poly) "_law_box_here" := by first | exact Or.inl (by decide +kernel) | exact Or.inr (Or.inl (by decide +kernel)) | exact Or.inr (Or.inr (by decide +kernel))
theorem vi_law_poly_1 : Vis (defScope s_law_poly) "_law_boxes" := by first | exact Or.inl (by decide +kernel) | exact Or.inr (Or.inl (by decide +kernel)) | exact Or.inr (Or.inr (by decide +kernel))
theorem vi_law_poly_2 : Vis (defScope s_law_poly) "_law_degree" := by first | exact Or.inl (by decide +kernel) | exact Or.inr (Or.inl (by decide +kernel)) | exact Or.inr (Or.inr (by decide +kernel))
theorem vi_law_poly_3 : Vis (defScope s_law_poly) "_law_found" := by first | exact Or.inl (by decide +kernel) | exact Or.inr (Or.inl (by decide +kernel)) | exact Or.inr (Or.inr (by decide +kernel))
theorem vi_law_poly_4 : Vis (defScope s_law_poly) "_law_some" := by first | exact Or.inl (by decide +kernel) | exact Or.inr (Or.inl (by decide +kernel)) | exact Or.inr (Or.inr (by decide +kernel))
theorem lo_law_poly_3 : Loc (defScope s_law_poly) "_law_found" := by first | exact Or.inl (by decide +kernel) | exact Or.inr (by decide +kernel)
theorem lo_law_poly_4 : Loc (defScope s_law_poly) "_law_some" := by first | exact Or.inl (by decide +kernel) | exact Or.inr (by decide +kernel)
theorem lo_law_poly_5 : Loc (defScope s_law_poly) "_law_t" := by first | exact Or.inl (by decide +kernel) | exact Or.inr (by decide +kernel)
theorem ok_law_poly (T : Txt K mg base) : FnOk P w K mg base (L2.CX P w) 6 T.a_law_poly T.d_law_poly ["_law_box_here", "_law_boxes", "_law_degree"] (spPolyDr (tabs T)) := by
  refine T.F_law_poly.okX sc_law_poly (fun vs H Q E h => ?_) (fun cdv A outer s H vs Q E hr h => ?_)
  · obtain ⟨_, _, _, rfl, _⟩ := h
    rfl
  obtain ⟨p, b, k, rfl, hb, b4, k4, hT, q⟩ := h
  refine ⟨_, (pss_cons (ps_set (i := 3) sc_law_poly.nd rfl lo_law_poly_3 (pe_lst pa_nil))
      (pss_cons (ps_set (i := 4) sc_law_poly.nd rfl lo_law_poly_4 (pe_callD (ok_law_exponents T) (hr.mono (by decide)) rfl T.m_law_exponents T.F_law_exponents.kp T.b_law_exponents .nil (fun σ => passAt (takes_of rfl rfl rfl rfl) σ) (pa_cons (uv 1 (hv := vi_law_poly_1)) (pa_cons (uv 2 (hv := vi_law_poly_2)) pa_nil))))
      (pss_cons (ps_for (passes_of rfl) rfl (pi_range1 rfl T.z_range (pa_cons (pe_callD (ok_law_take T) (hr.mono (by decide)) rfl T.m_law_take T.F_law_take.kp T.b_law_take .nil (fun σ => passAt (takes_of rfl rfl rfl rfl) σ) (pa_cons (uv 0 (hv := vi_law_poly_0)) (pa_cons pe_int pa_nil))) pa_nil)) (pg_name (i := 5) sc_law_poly.nd rfl lo_law_poly_5) (pss_one (ps_expr (pe_bm PySem.F.plainAttrs_list PySem.F.slot_list_append PySem.F.type_list_append mt_append (uv 3 (hv := vi_law_poly_3)) (pa_cons (pe_tup (pa_cons (pe_ix ux_seq (uv 4 (hv := vi_law_poly_4)) (pe_callD (ok_law_take T) (hr.mono (by decide)) rfl T.m_law_take T.F_law_take.kp T.b_law_take .nil (fun σ => passAt (takes_of rfl rfl rfl rfl) σ) (pa_cons (uv 0 (hv := vi_law_poly_0)) (pa_cons (pe_callB uk_len rfl T.z_len boot_len (pa_cons (uv 4 (hv := vi_law_poly_4)) pa_nil)) pa_nil))) (fun _ _ => rfl)) (pa_cons (pe_callD (ok_law_number T) (hr.mono (by decide)) rfl T.m_law_number T.F_law_number.kp T.b_law_number .nil (fun σ => passAt (takes_of rfl rfl rfl rfl) σ) (pa_cons (uv 0 (hv := vi_law_poly_0)) pa_nil)) pa_nil))) pa_nil)))))
      (pss_one (ps_ret (uv 3 (hv := vi_law_poly_3))))))), ?_⟩
  walk_at "go"
  refine g_new fun F hF => ?_
  have nF := hb.ne hF
  have e1 : Ex H (upd H F (.lst [])) := Ex.new hF
  have hF1 := @upd_same H F (.lst [])
  revert e1 hF1
  generalize upd H F (.lst []) = H1
  intro e1 hF1
  walk_at "go"
  refine ⟨b, k, rfl, b4, k4, e1.ey.tabs hT, fun s ws H2 e2 hs0 hs rs => ?_⟩
  have ls : ws.length = (expsTo b k).length := by rw [rs.len, List.length_map]
  have lp := expsTo_pos b b4 k k4
  have ll := expsTo_len b b4 k k4
  have hb2 := (hb.ex e1).ey e2
  have nS : s ≠ p := (hb.ex e1).ne hs0
  have hF2 := e2 _ _ hF1
  have nFS : F ≠ s := ne_of_none hF1 hs0
  have by2 : By (tabs T) p H H2 := (e1.ey.trans e2).by_ p
  walk_at "go"
  refine ⟨p, 6, rfl, hb2, by decide, by decide, fun m H3 m0 m1 b3 hb3 => ?_⟩
  walk_at "go"
  refine ⟨_, rfl, by omega, by omega, ?_⟩
  refine for_itC walk_range (fun i σ H4 => (∃ o5, σ = [some (.ref p), some (.int (b : Nat)), some (.int (k : Nat)), some (.ref F), some (.ref s), o5]) ∧ By (tabs T) p H H4 ∧ Box H4 p ∧ H4 s = some (.lst ws) ∧ Tk H2 H4 ∧ ∃ (us : List V) (ts : List Tp), H4 F = some (.lst us) ∧ Reps H4 (ts.map tpD) us ∧ ts.length = i ∧ ∀ t ∈ ts, (t.1.length = b ∧ (∀ x ∈ t.1, 0 ≤ x) ∧ t.1.sum ≤ ((k : Nat) : Int)) ∧ LowF t.2 ∧ t.2.1.natAbs ≤ 10 ^ 30 ∧ t.2.2 ≤ 10 ^ 30) ⟨⟨_, rfl⟩, by2.trans (b3.byB hb2), hb3, b3 _ _ nS hs, hb2.tk b3, [], [], b3 _ _ nF hF2, rfl, rfl, fun t z => by simp at z⟩ (fun _ _ _ _ _ => trivial) ?_ ?_
  · rintro RT BK i y σ H4 H4' hi ⟨⟨o5, rfl⟩, y4, hb4, hs4, t4, us, ts, hF4, ru, lt, et⟩ ⟨rfl, rfl⟩
    walk_at "go"
    refine ⟨p, ((ws.length : Nat) : Int), rfl, hb4, by omega, Nat.lt_of_lt_of_le (Bits.log (n := 12) (show (((ws.length : Nat) : Int)).natAbs < 2 ^ 12 by omega)) (by decide), fun x H5 x0 x1 b5 hb5 => ?_⟩
    have hs5 := b5 _ _ nS hs4
    obtain ⟨xv, hax, hx⟩ := atI_ex (l := ws) x0 (by omega)
    obtain ⟨dd, ed, rd⟩ := rs.get hx
    rw [List.getElem?_map] at ed
    cases ce : (expsTo b k)[x.toNat]? with
    | none => rw [ce] at ed; cases ed
    | some e0 =>
    rw [ce] at ed
    cases ed
    obtain ⟨pe, rfl, hpe⟩ := exp_at rd
    walk_at "go"
    refine g_ixL hs5 hax ?_
    walk_at "go"
    refine ⟨p, rfl, hb5, fun qf f H6 h6 fo b6 hb6 => ?_⟩
    walk_at "go"
    refine g_new fun mm hm => ?_
    have e7 : Ex H6 (upd H6 mm (.tup [.ref pe, .ref qf])) := Ex.new hm
    have h7 := @upd_same H6 mm (.tup [.ref pe, .ref qf])
    have nm := hb6.ne hm
    revert e7 h7
    generalize upd H6 mm (.tup [.ref pe, .ref qf]) = H7
    intro e7 h7
    have b46 : But p H4' H6 := b5.trans b6
    have t46 : Tk H4' H6 := hb4.tk b46
    have hF7 := e7 _ _ (b46 _ _ nF hF4)
    have hb7 := hb6.ex e7
    have lus : us.length ≤ 10 := by rw [ru.len, List.length_map]; omega
    walk_at "go"
    refine g_app hF7 (Nat.lt_of_le_of_lt lus (by decide)) ?_
    have t8 : Tk H7 (upd H7 F (.lst (us ++ [.ref mm]))) := (But.refl F H7).upd.tkl hF7
    walk_at "go"
    have t48 : Tk H4' (upd H7 F (.lst (us ++ [.ref mm]))) := (t46.trans e7.tk).trans t8
    refine ⟨⟨_, rfl⟩, (y4.trans ((b46.byB hb4).trans (e7.by_ p))).at_new hF hF7 trivial, hb7.at_upd nF, by rw [upd_ne nFS.symm]; exact e7 _ _ (b6 _ _ nS hs5), t4.trans t48, us ++ [.ref mm], ts ++ [(e0, f)], upd_same, ?_, by rw [List.length_append, lt]; rfl, fun t ht => ?_⟩
    · rw [List.map_append]
      refine (ru.tk t48 (tps_hard _)).append ⟨_, [], rfl, Rep.tp (t8 _ _ h7) (t8 _ _ (e7 _ _ ((t4.trans t46) _ _ hpe))) (t8 _ _ (e7 _ _ h6)), rfl⟩
    · rcases List.mem_append.mp ht with ht | ht
      · exact et t ht
      · rw [List.mem_singleton] at ht
        subst ht
        exact ⟨expsTo_el b b4 k k4 e0 (List.mem_of_getElem? ce), fo.dr⟩
  · rintro σ H4 ⟨⟨o5, rfl⟩, y4, hb4, hs4, t4, us, ts, hF4, ru, lt, et⟩
    walk_at "go"
    exact q F us ts H4 ⟨by omega, et⟩ hF nF hF4 ru y4 hb4
theorem vi_law_product_0 : Vis (defScope s_law_product) "_law_one" := by first | exact Or.inl (by decide +kernel) | exact Or.inr (Or.inl (by decide +kernel)) | exact Or.inr (Or.inr (by decide +kernel))
theorem vi_law_product_1 : Vis (defScope s_law_product) "_law_other" := by first | exact Or.inl (by decide +kernel) | exact Or.inr (Or.inl (by decide +kernel)) | exact Or.inr (Or.inr (by decide +kernel))
theorem vi_law_product_2 : Vis (defScope s_law_product) "_law_found" := by first | exact Or.inl (by decide +kernel) | exact Or.inr (Or.inl (by decide +kernel)) | exact Or.inr (Or.inr (by decide +kernel))
theorem vi_law_product_3 : Vis (defScope s_law_product) "_law_exponents_here" := by first | exact Or.inl (by decide +kernel) | exact Or.inr (Or.inl (by decide +kernel)) | exact Or.inr (Or.inr (by decide +kernel))
theorem vi_law_product_4 : Vis (defScope s_law_product) "_law_number_here" := by first | exact Or.inl (by decide +kernel) | exact Or.inr (Or.inl (by decide +kernel)) | exact Or.inr (Or.inr (by decide +kernel))
theorem vi_law_product_5 : Vis (defScope s_law_product) "_law_more" := by first | exact Or.inl (by decide +kernel) | exact Or.inr (Or.inl (by decide +kernel)) | exact Or.inr (Or.inr (by decide +kernel))
theorem vi_law_product_6 : Vis (defScope s_law_product) "_law_factor" := by first | exact Or.inl (by decide +kernel) | exact Or.inr (Or.inl (by decide +kernel)) | exact Or.inr (Or.inr (by decide +kernel))
theorem vi_law_product_7 : Vis (defScope s_law_product) "_law_both" := by first | exact Or.inl (by decide +kernel) | exact Or.inr (Or.inl (by decide +kernel)) | exact Or.inr (Or.inr (by decide +kernel))
theorem lo_law_product_2 : Loc (defScope s_law_product) "_law_found" := by first | exact Or.inl (by decide +kernel) | exact Or.inr (by decide +kernel)
theorem lo_law_product_3 : Loc (defScope s_law_product) "_law_exponents_here" := by first | exact Or.inl (by decide +kernel) | exact Or.inr (by decide +kernel)
theorem lo_law_product_4 : Loc (defScope s_law_product) "_law_number_here" := by first | exact Or.inl (by decide +kernel) | exact Or.inr (by decide +kernel)
theorem lo_law_product_5 : Loc (defScope s_law_product) "_law_more" := by first | exact Or.inl (by decide +kernel) | exact Or.inr (by decide +kernel)
theorem lo_law_product_6 : Loc (defScope s_law_product) "_law_factor" := by first | exact Or.inl (by decide +kernel) | exact Or.inr (by decide +kernel)
theorem lo_law_product_7 : Loc (defScope s_law_product) "_law_both" := by first | exact Or.inl (by decide +kernel) | exact Or.inr (by decide +kernel)
theorem ok_law_product (T : Txt K mg base) : FnOk P w K mg base (L2.CX P w) 6 T.a_law_product T.d_law_product ["_law_one", "_law_other"] (spProduct (tabs T)) := by
  refine T.F_law_product.okX sc_law_product (fun vs H Q E h => ?_) (fun cdv A outer s H vs Q E hr h => ?_)
  · obtain ⟨_, _, _, _, _, _, _, _, _, _, _, _, rfl, _⟩ := h
    rfl
  obtain ⟨l, l2, vs, vs2, ts, us, A0, N, A1, N1, A2, N2, rfl, hl, rl, hl2, rl2, hT, fit, fit1, fit2, leq, lens, q⟩ := h
  refine ⟨_, (pss_cons (ps_set (i := 2) sc_law_product.nd rfl lo_law_product_2 (pe_lst pa_nil))
      (pss_cons (ps_for (passes_of rfl) rfl (ui_seq (uv 0 (hv := vi_law_product_0))) (pg_tup rfl (pgs_cons (pg_name (i := 3) sc_law_product.nd rfl lo_law_product_3) (pgs_cons (pg_name (i := 4) sc_law_product.nd rfl lo_law_product_4) pgs_nil))) (pss_one (ps_for (passes_of rfl) rfl (ui_seq (uv 1 (hv := vi_law_product_1))) (pg_tup rfl (pgs_cons (pg_name (i := 5) sc_law_product.nd rfl lo_law_product_5) (pgs_cons (pg_name (i := 6) sc_law_product.nd rfl lo_law_product_6) pgs_nil))) (pss_cons (ps_set (i := 7) sc_law_product.nd rfl lo_law_product_7 (pe_callTy uk_tup rfl T.z_tuple boot_tuple (pa_cons (pe_lc (own := [("_law_e", 8), ("_law_f", 9)]) (g := gTup K 2 (gCons (gName 8) (gCons (gName 9) gNil))) rfl sc_law_product.nd (pi_zipN rfl T.z_zip (pa_cons (uv 3 (hv := vi_law_product_3)) (pa_cons (uv 5 (hv := vi_law_product_5)) pa_nil))) (blkOk_by (own := [("_law_e", 8), ("_law_f", 9)]) (N := N_law_product) (sc := defScope s_law_product) (by decide +kernel)) (fun _ _ _ _ _ => (pg_tup rfl (pgs_cons (pg_name (i := 8) sc_law_product.nd rfl (by first | exact Or.inl rfl | exact Or.inr rfl)) (pgs_cons (pg_name (i := 9) sc_law_product.nd rfl (by first | exact Or.inl rfl | exact Or.inr rfl)) pgs_nil)))) (fun _ _ _ _ _ => pts_nil) (fun _ _ _ _ _ => (pe_op (show OpR _ (binaryOp .Add) (uAdd K) from uo_add) (uv 8) (uv 9)))) pa_nil)))
      (pss_one (ps_expr (pe_bm PySem.F.plainAttrs_list PySem.F.slot_list_append PySem.F.type_list_append mt_append (uv 2 (hv := vi_law_product_2)) (pa_cons (pe_tup (pa_cons (uv 7 (hv := vi_law_product_7)) (pa_cons (pe_callD (ok_law_by T) (hr.mono (by decide)) rfl T.m_law_by T.F_law_by.kp T.b_law_by .nil (fun σ => passAt (takes_of rfl rfl rfl rfl) σ) (pa_cons (uv 4 (hv := vi_law_product_4)) (pa_cons (uv 6 (hv := vi_law_product_6)) pa_nil))) pa_nil))) pa_nil))))))))
      (pss_one (ps_ret (pe_callD (ok_law_gathered T) (hr.mono (by decide)) rfl T.m_law_gathered T.F_law_gathered.kp T.b_law_gathered .nil (fun σ => passAt (takes_of rfl rfl rfl rfl) σ) (pa_cons (uv 2 (hv := vi_law_product_2)) pa_nil)))))), ?_⟩
  have lv : vs.length = ts.length := by rw [rl.len, List.length_map]
  have lv2 : vs2.length = us.length := by rw [rl2.len, List.length_map]
  have lt := fit.len
  walk_at "go"
  refine g_new fun F hF => ?_
  have e1 : Ex H (upd H F (.lst [])) := Ex.new hF
  have hF1 := @upd_same H F (.lst [])
  revert e1 hF1
  generalize upd H F (.lst []) = H1
  intro e1 hF1
  walk_at "go"
  refine .inl ?_
  walk_at "go"
  refine ⟨l, rfl, ⟨_, sqL (e1 _ _ hl)⟩, ?_⟩
  refine for_itC walk_list (fun i σ H4 => (∃ o3 o4 o5 o6 o7 o8 o9, σ = [some (.ref l), some (.ref l2), some (.ref F), o3, o4, o5, o6, o7, o8, o9]) ∧ Ex H H4 ∧ ∃ acc, H4 F = some (.lst acc) ∧ Reps H4 ((mulP (ts.take i) us).map tpD) acc) ⟨⟨_, _, _, _, _, _, _, rfl⟩, e1, [], hF1, rfl⟩ (fun i σ H4 _ pv => sqL (pv.2.1 _ _ hl)) ?_ ?_
  · rintro RT BK i y σ H4 H4' hi ⟨⟨o3, o4, o5, o6, o7, o8, o9, rfl⟩, e4, acc, ha, ra⟩ ⟨rfl, hy⟩
    obtain ⟨dd, ed, rd⟩ := rl.get hy
    rw [List.getElem?_map] at ed
    cases ct : ts[i]? with
    | none => rw [ct] at ed; cases ed
    | some t =>
    rw [ct] at ed
    cases ed
    obtain ⟨ya, pa, qa, rfl, h1, h2, h3⟩ := tp_at rd
    refine g_tup2 (e4 _ _ h1) ?_
    walk_at "go"
    refine .inl ?_
    walk_at "go"
    refine ⟨l2, rfl, ⟨_, sqL (e4 _ _ hl2)⟩, ?_⟩
    have mt : mulP (ts.take (i + 1)) us = mulP (ts.take i) us ++ us.map fun u => (t.1.zipWith (· + ·) u.1, mulF t.2 u.2) := by unfold mulP; rw [flat_take _ ct]
    have mle : (mulP (ts.take (i + 1)) us).length ≤ (mulP ts us).length := flat_take_le _ ts (i + 1)
    have sz1 := fit1.each t (List.mem_of_getElem? ct)
    obtain ⟨s1, s2, s3⟩ := fit1.num (by rw [Nat.add_mul]; exact Nat.le_trans (by omega) (Nat.le_add_left _ _)) sz1
    refine for_itC walk_list (fun j σ H5 => (∃ o5 o6 o7 o8 o9, σ = [some (.ref l), some (.ref l2), some (.ref F), some (.ref pa), some (.ref qa), o5, o6, o7, o8, o9]) ∧ Ex H H5 ∧ ∃ acc, H5 F = some (.lst acc) ∧ Reps H5 ((mulP (ts.take i) us ++ (us.take j).map fun u => (t.1.zipWith (· + ·) u.1, mulF t.2 u.2)).map tpD) acc) ⟨⟨_, _, _, _, _, rfl⟩, e4, acc, ha, by simpa using ra⟩ (fun j σ H5 _ pv => sqL (pv.2.1 _ _ hl2)) ?_ ?_
    · rintro RT BK j y σ H5 H5' hj ⟨⟨o5, o6, o7, o8, o9, rfl⟩, e5, acc, ha, ra⟩ ⟨rfl, hy⟩
      obtain ⟨dd, ed, rd⟩ := rl2.get hy
      rw [List.getElem?_map] at ed
      cases cu : us[j]? with
      | none => rw [cu] at ed; cases ed
      | some u =>
      rw [cu] at ed
      cases ed
      obtain ⟨yb, pb, qb, rfl, g1, g2, g3⟩ := tp_at rd
      have tu := leq t (List.mem_of_getElem? ct) u (List.mem_of_getElem? cu)
      have sz2 := fit2.each u (List.mem_of_getElem? cu)
      obtain ⟨z1, z2, z3⟩ := fit2.num (by rw [Nat.add_mul]; exact Nat.le_trans (by omega) (Nat.le_add_left _ _)) sz2
      have le1 : t.1.length ≤ 100000 := by
        have hm : (t.1.zipWith (· + ·) u.1, mulF t.2 u.2) ∈ mulP ts us := List.mem_flatten.mpr ⟨_, List.mem_map.mpr ⟨t, List.mem_of_getElem? ct, rfl⟩, List.mem_map.mpr ⟨u, List.mem_of_getElem? cu, rfl⟩⟩
        have := lens _ hm
        rw [List.length_zipWith] at this
        omega
      refine g_tup2 (e5 _ _ g1) ?_
      walk_at "go"
      refine ⟨true, true, pa, pb, _, _, rfl, sqT (e5 _ _ h2), sqT (e5 _ _ g2), fun D hD => ?_⟩
      refine lc_mapE (walk_zipS (by rw [List.length_map, List.length_map]; exact tu)) (fun j _ v => ∃ x, (t.1.zipWith (· + ·) u.1)[j]? = some x ∧ v = .int x) (by rw [List.length_map]; omega) hD (fun _ _ _ _ _ r => r) (fun H2 e2 => ⟨sqT (e2 _ _ (e5 _ _ h2)), sqT (e2 _ _ (e5 _ _ g2))⟩) ?_ ?_
      · rintro w y H6 H7 P N hj e6 ⟨T6, x1, x2, rfl, hT6, rfl, k1, k2⟩ k
        replace k1 : (t.1.map V.int)[w]? = some x1 := k1
        replace k2 : (u.1.map V.int)[w]? = some x2 := k2
        rw [List.getElem?_map] at k1 k2
        cases c1 : t.1[w]? with
        | none => rw [c1] at k1; cases k1
        | some a1 =>
        cases c2 : u.1[w]? with
        | none => rw [c2] at k2; cases k2
        | some a2 =>
        rw [c1] at k1
        rw [c2] at k2
        cases k1
        cases k2
        refine g_tup2 upd_same ?_
        walk_at "go"
        refine ⟨rfl, ?_⟩
        walk_at "go"
        exact k _ _ (Ex.new hT6) ⟨a1 + a2, by rw [List.getElem?_zipWith, c1, c2], rfl⟩
      intro H6 ac e6 hac hla hr2
      have ea : ac = (t.1.zipWith (· + ·) u.1).map V.int := by
        have := acc_intsF (f := id) (e := t.1.zipWith (· + ·) u.1) (by rw [hla, List.length_map, List.length_zipWith]; omega) hr2
        rwa [List.map_id] at this
      subst ea
      walk_at "go"
      refine g_tupOf hac fun b hb => ?_
      have e7 : Ex H6 (upd H6 b (.tup ((t.1.zipWith (· + ·) u.1).map V.int))) := Ex.new hb
      have h7 := @upd_same H6 b (.tup ((t.1.zipWith (· + ·) u.1).map V.int))
      revert e7 h7
      generalize upd H6 b (.tup ((t.1.zipWith (· + ·) u.1).map V.int)) = H7
      intro e7 h7
      have x7 := e6.trans e7
      walk_at "go"
      refine g_tyL (x7 _ _ ha) ?_
      walk_at "go"
      refine ⟨qa, qb, t.2, u.2, rfl, x7 _ _ (e5 _ _ h3), x7 _ _ (e5 _ _ g3), s1, z1, s2, s3, z2, z3, fun q1 H8 e8 h8 => ?_⟩
      walk_at "go"
      refine g_new fun mm hm => ?_
      have e9 : Ex H8 (upd H8 mm (.tup [.ref b, .ref q1])) := Ex.new hm
      have h9 := @upd_same H8 mm (.tup [.ref b, .ref q1])
      revert e9 h9
      generalize upd H8 mm (.tup [.ref b, .ref q1]) = H9
      intro e9 h9
      have x9 := (x7.trans e8).trans e9
      have ha9 := x9 _ _ ha
      have lacc : acc.length ≤ 100000 := by
        have l1 := ra.len
        rw [List.length_map, List.length_append, List.length_map, List.length_take] at l1
        rw [mt, List.length_append, List.length_map] at mle
        omega
      walk_at "go"
      refine g_app ha9 (Nat.lt_of_le_of_lt lacc (by decide)) ?_
      have t10 : Tk H9 (upd H9 F (.lst (acc ++ [.ref mm]))) := (But.refl F H9).upd.tkl ha9
      walk_at "go"
      refine ⟨⟨_, _, _, _, _, rfl⟩, (e5.trans x9).at_new hF, _, upd_same, ?_⟩
      have zz : (mulP (ts.take i) us ++ (us.take (j + 1)).map fun u => (t.1.zipWith (· + ·) u.1, mulF t.2 u.2)).map tpD = (mulP (ts.take i) us ++ (us.take j).map fun u => (t.1.zipWith (· + ·) u.1, mulF t.2 u.2)).map tpD ++ [tpD (t.1.zipWith (· + ·) u.1, mulF t.2 u.2)] := by
        rw [take_at cu]
        simp
      rw [zz]
      exact ((ra.ex x9).tk t10 (tps_hard _)).append ⟨_, [], rfl, Rep.tp (t10 _ _ h9) (t10 _ _ (e9 _ _ (e8 _ _ h7))) (t10 _ _ (e9 _ _ h8)), rfl⟩
    · rintro σ H5 ⟨⟨o5, o6, o7, o8, o9, rfl⟩, e5, acc, ha, ra⟩
      rw [lv2, List.take_length] at ra
      refine ⟨⟨_, _, _, _, _, _, _, rfl⟩, e5, acc, ha, ?_⟩
      rw [mt]
      exact ra
  rintro σ H4 ⟨⟨o3, o4, o5, o6, o7, o8, o9, rfl⟩, e4, acc, ha, ra⟩
  rw [lv, List.take_length] at ra
  walk_at "go"
  refine ⟨F, acc, mulP ts us, A0, N, rfl, ha, ra, e4.ey.tabs hT, fit, lens, fun q1 zs H5 e5 n5 h5 r5 => ?_⟩
  exact q q1 zs H5 (e4.ey.trans e5) (e4.free n5) h5 r5
theorem vi_Poly_worth_0 : Vis (defScope s_Poly_worth) "self" := by first | exact Or.inl (by decide +kernel) | exact Or.inr (Or.inl (by decide +kernel)) | exact Or.inr (Or.inr (by decide +kernel))
theorem vi_Poly_worth_1 : Vis (defScope s_Poly_worth) "numbers" := by first | exact Or.inl (by decide +kernel) | exact Or.inr (Or.inl (by decide +kernel)) | exact Or.inr (Or.inr (by decide +kernel))
theorem vi_Poly_worth_2 : Vis (defScope s_Poly_worth) "found" := by first | exact Or.inl (by decide +kernel) | exact Or.inr (Or.inl (by decide +kernel)) | exact Or.inr (Or.inr (by decide +kernel))
theorem vi_Poly_worth_3 : Vis (defScope s_Poly_worth) "exponents" := by first | exact Or.inl (by decide +kernel) | exact Or.inr (Or.inl (by decide +kernel)) | exact Or.inr (Or.inr (by decide +kernel))
theorem vi_Poly_worth_4 : Vis (defScope s_Poly_worth) "number" := by first | exact Or.inl (by decide +kernel) | exact Or.inr (Or.inl (by decide +kernel)) | exact Or.inr (Or.inr (by decide +kernel))
theorem lo_Poly_worth_2 : Loc (defScope s_Poly_worth) "found" := by first | exact Or.inl (by decide +kernel) | exact Or.inr (by decide +kernel)
theorem lo_Poly_worth_3 : Loc (defScope s_Poly_worth) "exponents" := by first | exact Or.inl (by decide +kernel) | exact Or.inr (by decide +kernel)
theorem lo_Poly_worth_4 : Loc (defScope s_Poly_worth) "number" := by first | exact Or.inl (by decide +kernel) | exact Or.inr (by decide +kernel)
theorem ok_Poly_worth (T : Txt K mg base) : FnOk P w K mg base (L2.CX P w) 6 T.a_Poly_worth T.d_Poly_worth ["self", "numbers"] (spPoWorth T.a_Poly) := by
  refine T.F_Poly_worth.okX sc_Poly_worth (fun vs H Q E h => ?_) (fun cdv A outer s H vs Q E hr h => ?_)
  · obtain ⟨_, _, _, _, _, _, _, _, _, _, rfl, _⟩ := h
    rfl
  obtain ⟨p, r, n, ts, fs, A0, N, B, M, k, rfl, ⟨dx, l, vs, hp, hl, rl⟩, rf, wf, hk, q⟩ := h
  refine ⟨_, (pss_cons (ps_set (i := 2) sc_Poly_worth.nd rfl lo_Poly_worth_2 (pe_tup (pa_cons pe_int (pa_cons pe_int pa_nil))))
      (pss_cons (ps_for (passes_of rfl) rfl (ui_seq (pe_fld (uv 0 (hv := vi_Poly_worth_0)) rfl)) (pg_tup rfl (pgs_cons (pg_name (i := 3) sc_Poly_worth.nd rfl lo_Poly_worth_3) (pgs_cons (pg_name (i := 4) sc_Poly_worth.nd rfl lo_Poly_worth_4) pgs_nil))) (pss_one (ps_set (i := 2) sc_Poly_worth.nd rfl lo_Poly_worth_2 (pe_callD (ok_added T) (hr.mono (by decide)) rfl T.m_added T.F_added.kp T.b_added .nil (fun σ => passAt (takes_of rfl rfl rfl rfl) σ) (pa_cons (uv 2 (hv := vi_Poly_worth_2)) (pa_cons (pe_callD (ok_multiplied T) (hr.mono (by decide)) rfl T.m_multiplied T.F_multiplied.kp T.b_multiplied .nil (fun σ => passAt (takes_of rfl rfl rfl rfl) σ) (pa_cons (uv 4 (hv := vi_Poly_worth_4)) (pa_cons (pe_callD (ok_product_at T) (hr.mono (by decide)) rfl T.m_product_at T.F_product_at.kp T.b_product_at .nil (fun σ => passAt (takes_of rfl rfl rfl rfl) σ) (pa_cons (uv 3 (hv := vi_Poly_worth_3)) (pa_cons (uv 1 (hv := vi_Poly_worth_1)) pa_nil))) pa_nil))) pa_nil))))))
      (pss_one (ps_ret (uv 2 (hv := vi_Poly_worth_2)))))), ?_⟩
  walk_at "go"
  refine g_new fun z hz => ?_
  have e1 : Ex H (upd H z (.tup [.int 0, .int 1])) := Ex.new hz
  have hz1 := @upd_same H z (.tup [.int 0, .int 1])
  revert e1 hz1
  generalize upd H z (.tup [.int 0, .int 1]) = H1
  intro e1 hz1
  walk_at "go"
  refine .inl ?_
  refine g_fld ?_
  walk_at "go"
  refine g_fldO (e1 _ _ hp) T.cl_Poly T.na_Poly_kept flPoK ?_
  refine ⟨l, rfl, ⟨_, sqL (e1 _ _ hl)⟩, ?_⟩
  have lv : vs.length = ts.length := by rw [rl.len, List.length_map]
  refine for_itC walk_list (fun i σ H4 => (∃ o3 o4 g, σ = [some (.ref p), some (.ref r), some (.ref g), o3, o4] ∧ H4 g = some (.tup [.int ((ts.take i).foldl (stepW fs) (0, 1)).1, .int ((ts.take i).foldl (stepW fs) (0, 1)).2])) ∧ Ex H H4) ⟨⟨_, _, z, rfl, hz1⟩, e1⟩ (fun i σ H4 _ pv => sqL (pv.2 _ _ hl)) ?_ ?_
  · rintro RT BK i y σ H4 H4' hi ⟨⟨o3, o4, g, rfl, hg⟩, e4⟩ ⟨rfl, hy⟩
    obtain ⟨dd, ed, rd⟩ := rl.get hy
    rw [List.getElem?_map] at ed
    cases ct : ts[i]? with
    | none => rw [ct] at ed; cases ed
    | some t =>
    rw [ct] at ed
    cases ed
    obtain ⟨ya, pa, qa, rfl, h1, h2, h3⟩ := tp_at (rd.ex e4)
    have tm := List.mem_of_getElem? ct
    obtain ⟨w1, w2, w3, w4⟩ := wf.each t tm
    obtain ⟨z1, z2⟩ := wf.one tm
    have hM2 : M ^ k < 2 ^ 5500 := Nat.lt_of_le_of_lt (Nat.le_mul_of_pos_left _ wf.n0) wf.hN
    refine g_tup2 h1 ?_
    walk_at "go"
    refine ⟨pa, r, t.1, fs, B, M, k, rfl, h2, rf.ex e4, w2, w3, w4, wf.num, wf.b1, wf.m0, hM2, wf.hB, hk, wf.lf, fun q1 H5 e5 h5 => ?_⟩
    have b1 := z1.bits (n := 5500) (m := 900) hM2 wf.hB (Nat.pow_pos wf.m0)
    obtain ⟨p1, p2, p3⟩ := wf.num' (by rw [Nat.add_mul]; exact Nat.le_trans (by omega) (Nat.le_add_left _ _)) (w1.mono (Nat.le_mul_of_pos_right A0 (Nat.pow_pos (n := k) wf.b1)) (Nat.dvd_mul_right N (M ^ k)))
    have h3' := e5 _ _ h3
    walk_at "go"
    refine ⟨qa, q1, t.2, prodE t.1 fs, rfl, h3', h5, p1, z1.pos, p2, p3, b1.2.le, b1.1, fun q2 H6 e6 h6 => ?_⟩
    have hg' := (e5.trans e6) _ _ hg
    obtain ⟨r1, r2, r3⟩ := wf.num' (Nat.mul_le_mul_right _ (by omega)) (wf.part i (by omega))
    obtain ⟨s1, s2, s3⟩ := wf.num' (by rw [Nat.add_mul]; exact Nat.le_trans (by omega) (Nat.le_add_left _ _)) z2
    walk_at "go"
    refine ⟨g, q2, _, mulF t.2 (prodE t.1 fs), rfl, hg', h6, r1, s1, r2, r3, s2, s3, fun q3 H7 e7 h7 => ?_⟩
    walk_at "go"
    refine ⟨⟨_, _, q3, rfl, ?_⟩, ((e4.trans e5).trans e6).trans e7⟩
    rw [worth_take ct]
    exact h7
  rintro σ H4 ⟨⟨o3, o4, g, rfl, hg⟩, e4⟩
  walk_at "go"
  refine q g H4 e4 ?_
  rw [lv, List.take_length] at hg
  exact hg
theorem vi_law_equals_0 : Vis (defScope s_law_equals) "_law_box_here" := by first | exact Or.inl (by decide +kernel) | exact Or.inr (Or.inl (by decide +kernel)) | exact Or.inr (Or.inr (by decide +kernel))
theorem vi_law_equals_1 : Vis (defScope s_law_equals) "_law_boxes" := by first | exact Or.inl (by decide +kernel) | exact Or.inr (Or.inl (by decide +kernel)) | exact Or.inr (Or.inr (by decide +kernel))
theorem vi_law_equals_2 : Vis (defScope s_law_equals) "_law_own" := by first | exact Or.inl (by decide +kernel) | exact Or.inr (Or.inl (by decide +kernel)) | exact Or.inr (Or.inr (by decide +kernel))
theorem vi_law_equals_3 : Vis (defScope s_law_equals) "_law_poly_here" := by first | exact Or.inl (by decide +kernel) | exact Or.inr (Or.inl (by decide +kernel)) | exact Or.inr (Or.inr (by decide +kernel))
theorem vi_law_equals_4 : Vis (defScope s_law_equals) "_law_same" := by first | exact Or.inl (by decide +kernel) | exact Or.inr (Or.inl (by decide +kernel)) | exact Or.inr (Or.inr (by decide +kernel))
theorem vi_law_equals_5 : Vis (defScope s_law_equals) "_law_more" := by first | exact Or.inl (by decide +kernel) | exact Or.inr (Or.inl (by decide +kernel)) | exact Or.inr (Or.inr (by decide +kernel))
theorem vi_law_equals_6 : Vis (defScope s_law_equals) "_law_wide" := by first | exact Or.inl (by decide +kernel) | exact Or.inr (Or.inl (by decide +kernel)) | exact Or.inr (Or.inr (by decide +kernel))
theorem lo_law_equals_4 : Loc (defScope s_law_equals) "_law_same" := by first | exact Or.inl (by decide +kernel) | exact Or.inr (by decide +kernel)
theorem lo_law_equals_5 : Loc (defScope s_law_equals) "_law_more" := by first | exact Or.inl (by decide +kernel) | exact Or.inr (by decide +kernel)
theorem lo_law_equals_6 : Loc (defScope s_law_equals) "_law_wide" := by first | exact Or.inl (by decide +kernel) | exact Or.inr (by decide +kernel)
theorem ok_law_equals (T : Txt K mg base) : FnOk P w K mg base (L2.CX P w) 7 T.a_law_equals T.d_law_equals ["_law_box_here", "_law_boxes", "_law_own", "_law_poly_here"] (spEquals (tabs T) T.a_Poly) := by
  refine T.F_law_equals.okX sc_law_equals (fun vs H Q E h => ?_) (fun cdv A outer s H vs Q E hr h => ?_)
  · obtain ⟨_, _, _, _, _, _, _, rfl, _⟩ := h
    rfl
  obtain ⟨p, l, r, us, ts, n, k, rfl, hb, hT, hl, ru, dr, hn, pa, q⟩ := h
  refine ⟨_, (pss_cons (ps_set (i := 4) sc_law_equals.nd rfl lo_law_equals_4 (pe_makeD T.mk_Poly (ok_Poly_init T) (hr.mono (by decide)) rfl T.m_Poly T.b_Poly_init .nil (fun σ => passAt (takes_of rfl rfl rfl rfl) σ) (pa_cons (uv 1 (hv := vi_law_equals_1)) (pa_cons (pe_callTy uk_tup rfl T.z_tuple boot_tuple (pa_cons (pe_callD (ok_law_contrary T) (hr.mono (by decide)) rfl T.m_law_contrary T.F_law_contrary.kp T.b_law_contrary .nil (fun σ => passAt (takes_of rfl rfl rfl rfl) σ) (pa_cons (uv 0 (hv := vi_law_equals_0)) (pa_cons (uv 2 (hv := vi_law_equals_2)) pa_nil))) pa_nil)) pa_nil))))
      (pss_cons (ps_set (i := 5) sc_law_equals.nd rfl lo_law_equals_5 (pe_makeN (n := 1) (E := fun _ _ _ => False) T.mk_Poly (ok_Poly_init T) (hr.mono (by decide)) rfl T.m_Poly (kb_Poly T).choose_spec passL (pa_cons (uv 1 (hv := vi_law_equals_1)) pa_nil) (pk_cons (pe_op uo_add (pe_callTy uk_list rfl T.z_list boot_list (pa_cons (uv 2 (hv := vi_law_equals_2)) pa_nil)) (pe_lst (pa_cons (pe_tup (pa_cons (pe_op op_repTn (pe_tup (pa_cons pe_int pa_nil)) (uv 1 (hv := vi_law_equals_1))) (pa_cons (pe_tup (pa_cons pe_int (pa_cons pe_int pa_nil))) pa_nil))) pa_nil))) pk_nil)))
      (pss_cons (ps_set (i := 6) sc_law_equals.nd rfl lo_law_equals_6 (pe_makeD T.mk_Poly (ok_Poly_init T) (hr.mono (by decide)) rfl T.m_Poly T.b_Poly_init .nil (fun σ => passAt (takes_of rfl rfl rfl rfl) σ) (pa_cons pe_int (pa_cons (pe_lst (pa_cons (pe_tup (pa_cons (pe_tup pa_nil) (pa_cons (pe_tup (pa_cons pe_int (pa_cons pe_int pa_nil))) pa_nil))) pa_nil)) pa_nil))))
      (C8.pss_cut (ps_if (pt_cmpR uo_lt (uv 1 (hv := vi_law_equals_1)) pe_int (nomark _)) (pss_one (ps_set (i := 6) sc_law_equals.nd rfl lo_law_equals_6 (pe_makeD T.mk_Poly (ok_Poly_init T) (hr.mono (by decide)) rfl T.m_Poly T.b_Poly_init .nil (fun σ => passAt (takes_of rfl rfl rfl rfl) σ) (pa_cons (pe_op uo_add (uv 1 (hv := vi_law_equals_1)) pe_int) (pa_cons (pe_lc (own := [("_law_exponents_here", 7), ("_law_number_here", 8)]) (g := gTup K 2 (gCons (gName 7) (gCons (gName 8) gNil))) rfl sc_law_equals.nd (ui_seq (uv 2 (hv := vi_law_equals_2))) (blkOk_by (own := [("_law_exponents_here", 7), ("_law_number_here", 8)]) (N := N_law_equals) (sc := defScope s_law_equals) (by decide +kernel)) (fun _ _ _ _ _ => (pg_tup rfl (pgs_cons (pg_name (i := 7) sc_law_equals.nd rfl (by first | exact Or.inl rfl | exact Or.inr rfl)) (pgs_cons (pg_name (i := 8) sc_law_equals.nd rfl (by first | exact Or.inl rfl | exact Or.inr rfl)) pgs_nil)))) (fun _ _ _ _ _ => pts_nil) (fun _ _ _ _ _ => (pe_tup (pa_cons (pe_op (show OpR _ (binaryOp .Add) (uAdd K) from uo_add) (uv 7) (pe_tup (pa_cons pe_int pa_nil))) (pa_cons (uv 8) pa_nil))))) pa_nil))))) pss_nil)
      (pss_cons (ps_if (PW.pt (pw_or (pt_cmpR op_notBl (pe_cmpR (op_eqM (ok_Poly_eq T) T.oth_Poly T.mt_Poly_eq (hr.mono (by decide)) T.b_Poly_eq (fun _ => passAt0)) (uv 3 (hv := vi_law_equals_3)) (uv 4 (hv := vi_law_equals_4)) (nomark _)) pe_bl (nomark _)) (pw_or (pt_cmpR op_notBl (pe_cmpR (op_eqM (ok_Poly_eq T) T.oth_Poly T.mt_Poly_eq (hr.mono (by decide)) T.b_Poly_eq (fun _ => passAt0)) (uv 4 (hv := vi_law_equals_4)) (uv 3 (hv := vi_law_equals_3)) (nomark _)) pe_bl (nomark _)) (pw_or1 (pt_cmpR op_notBl (pe_cmpR (op_eqM (ok_Poly_eq T) T.oth_Poly T.mt_Poly_eq (hr.mono (by decide)) T.b_Poly_eq (fun _ => passAt0)) (uv 3 (hv := vi_law_equals_3)) (pe_callTy uk_tup rfl T.z_tuple boot_tuple (pa_cons (pe_methD0 (uv 3 (hv := vi_law_equals_3)) T.cl_Poly T.mt_Poly_terms (ok_Poly_terms T) (hr.mono (by decide)) T.b_Poly_terms .nil (fun σ => passAt (takes_of rfl rfl rfl rfl) σ)) pa_nil)) (nomark _)) pe_bl (nomark _)))))) (pss_one (ps_ret pe_bl)) pss_nil)
      (pss_one (ps_ret (pe_and (pe_cmpR op_is_bl (pe_cmpR (op_eqM (ok_Poly_eq T) T.oth_Poly T.mt_Poly_eq (hr.mono (by decide)) T.b_Poly_eq (fun _ => passAt0)) (uv 3 (hv := vi_law_equals_3)) (uv 5 (hv := vi_law_equals_5)) (nomark _)) pe_bl (nomark _)) (pe_and (pe_cmpR op_is_bl (pe_cmpR (op_eqM (ok_Poly_eq T) T.oth_Poly T.mt_Poly_eq (hr.mono (by decide)) T.b_Poly_eq (fun _ => passAt0)) (uv 5 (hv := vi_law_equals_5)) (uv 3 (hv := vi_law_equals_3)) (nomark _)) pe_bl (nomark _)) (pe_one (pe_cmpR op_is_bl (pe_cmpR (op_eqM (ok_Poly_eq T) T.oth_Poly T.mt_Poly_eq (hr.mono (by decide)) T.b_Poly_eq (fun _ => passAt0)) (uv 3 (hv := vi_law_equals_3)) (uv 6 (hv := vi_law_equals_6)) (nomark _)) pe_bl (nomark _)))))))))))), ?_⟩
  have lu : us.length = ts.length := by rw [ru.len, List.length_map]
  have l12 := dr.len
  walk_at "go"
  refine g_make ?_
  walk_at "go"
  refine ⟨p, l, us, ts, n, k, rfl, hb, hl, ru, dr, fun q1 ws1 rs H1 b1 bx1 h1 r1 hrs => ?_⟩
  have y1 : By (tabs T) p H H1 := b1.byB hb
  walk_at "go"
  refine g_tupOf h1 fun q2 hq2 => ?_
  obtain ⟨H2, eq2, e2, h2⟩ := nw_o (.tup ws1) hq2
  rw [eq2]
  walk_at "go"
  have nl : ∀ {H' : Hp} {xs : List V} {ds : List Tp} {a : Addr}, Box H' p → H' a = some (.lst xs) → Reps H' (ds.map tpD) xs → a ≠ p := fun {H' xs ds a} bx ha rr => bx.neL ha (fun x hx n z => by
    obtain ⟨i, hi⟩ := List.mem_iff_getElem?.mp hx
    obtain ⟨d', hd, r⟩ := rr.get hi
    rw [List.getElem?_map] at hd
    cases c : ds[i]? with
    | none => rw [c] at hd; cases hd
    | some t' =>
      rw [c] at hd
      cases hd
      obtain ⟨a, _, _, rfl, _⟩ := tp_at r
      cases z)
  have nlp : l ≠ p := nl hb hl ru
  have low := fun t ht => (dr.each t ht).2.1
  have fitc : (∃ A N, FitT A N rs) ∧ (∀ t ∈ rs, t.1.length ≤ 100000) ∧ polyP rs = polyP ts := by
    rcases hrs with ⟨e1, e2⟩ | ⟨i, k', hi, rfl⟩
    · subst e1
      subst e2
      exact ⟨⟨_, _, dr.fit⟩, fun t z => by simp at z, rfl⟩
    · obtain ⟨f1, f2⟩ := contr_fit (k := k') dr hi
      exact ⟨⟨_, _, f1⟩, fun t ht => by rw [f2 t ht]; omega, (contr_ok low hi).2⟩
  obtain ⟨⟨A1, N1, fit1⟩, le1, pe1⟩ := fitc
  refine fun sa sx ha1 ha2 ha3 => g_polyA rfl (e2.ey.tabs (y1.tabs hT)) (.inr ⟨q2, ws1, rfl, .inr h2, r1.ex e2⟩) fit1 le1 ha1 ha2 ha3 fun H3 y3 ps3 => ?_
  rw [pe1] at ps3
  have bx3 := (bx1.ex e2).ey y3
  have yb3 : By (tabs T) p H H3 := (y1.trans (e2.by_ p)).trans (y3.by_ p)
  have hl3 : H3 l = some (.lst us) := yb3.keep l _ nlp hl trivial
  have ru3 := ru.tk (yb3.tkB hb) (tps_hard ts)
  have hT3 := yb3.tabs hT
  have pa3 := pa.by_ yb3 hb
  walk_at "go"
  refine g_makeN ?_
  walk_at "go"
  refine g_listL hl3 fun m1 hm1 => ?_
  obtain ⟨H4, eq4, e4, h4⟩ := nw_o (.lst us) hm1
  rw [eq4]
  walk_at "go"
  refine ⟨by show 1 ≤ sizeLine; decide, fun m2 hm2 => ?_⟩
  obtain ⟨H5, eq5, e5, h5⟩ := nw_o (.tup [.int 0]) hm2
  rw [eq5]
  walk_at "go"
  refine g_repTn h5 (by show 1 ≤ 1000; decide) (by omega) (by omega) fun m3 H6 e6 h6 => ?_
  rw [Int.toNat_natCast, rep0] at h6
  walk_at "go"
  refine ⟨by show 2 ≤ sizeLine; decide, fun m4 hm4 => ?_⟩
  obtain ⟨H7, eq7, e7, h7⟩ := nw_o (.tup [.int 1, .int 7]) hm4
  rw [eq7]
  walk_at "go"
  refine ⟨by show 2 ≤ sizeLine; decide, fun m5 hm5 => ?_⟩
  obtain ⟨H8, eq8, e8, h8⟩ := nw_o (.tup [.ref m3, .ref m4]) hm5
  rw [eq8]
  walk_at "go"
  refine ⟨by show 1 ≤ sizeLine; decide, fun m6 hm6 => ?_⟩
  obtain ⟨H9, eq9, e9, h9⟩ := nw_o (.lst [.ref m5]) hm6
  rw [eq9]
  have e49 : Ex H4 H9 := ((((e5.trans e6).trans e7).trans e8).trans e9)
  walk_at "go"
  refine g_catL (e49 _ _ h4) h9 (by rw [lu]; show ts.length + 1 ≤ 1000000; omega) fun m7 hm7 => ?_
  obtain ⟨H10, eq10, e10, h10⟩ := nw_o (.lst (us ++ [.ref m5])) hm7
  rw [eq10]
  have e310 : Ex H3 H10 := (e4.trans e49).trans e10
  have r10 : Reps H10 ((moreP n ts).map tpD) (us ++ [.ref m5]) := by
    unfold moreP
    rw [List.map_append]
    exact (ru3.ex e310).append ⟨_, [], rfl, Rep.tp ((e9.trans e10) _ _ h8) ((((e7.trans e8).trans e9).trans e10) _ _ h6) (((e8.trans e9).trans e10) _ _ h7), rfl⟩
  walk_at "go"
  obtain ⟨fit2, le2⟩ := more_fit dr
  refine ⟨rfl, rfl, fun ma mx hma hmx hmn => g_polyA rfl (e310.ey.tabs hT3) (.inr ⟨m7, _, rfl, .inl h10, r10⟩) fit2 (fun t ht => by rw [le2 t ht]; omega) hma hmx hmn fun H11 y11 pm11 => ?_⟩
  have bx11 := (bx3.ex e310).ey y11
  have yb11 : By (tabs T) p H H11 := (yb3.trans (e310.by_ p)).trans (y11.by_ p)
  have ps11 := (ps3.ex e310).ey y11
  have hT11 := yb11.tabs hT
  walk_at "go"
  refine g_make ?_
  walk_at "go"
  refine ⟨by show 0 ≤ sizeLine; decide, fun c1 hc1 => ?_⟩
  obtain ⟨H12, eq12, e12, h12⟩ := nw_o (.tup []) hc1
  rw [eq12]
  walk_at "go"
  refine ⟨by show 2 ≤ sizeLine; decide, fun c2 hc2 => ?_⟩
  obtain ⟨H13, eq13, e13, h13⟩ := nw_o (.tup [.int 1, .int 3]) hc2
  rw [eq13]
  walk_at "go"
  refine ⟨by show 2 ≤ sizeLine; decide, fun c3 hc3 => ?_⟩
  obtain ⟨H14, eq14, e14, h14⟩ := nw_o (.tup [.ref c1, .ref c2]) hc3
  rw [eq14]
  walk_at "go"
  refine ⟨by show 1 ≤ sizeLine; decide, fun c4 hc4 => ?_⟩
  obtain ⟨H15, eq15, e15, h15⟩ := nw_o (.lst [.ref c3]) hc4
  rw [eq15]
  walk_at "go"
  have e1115 := ((e12.trans e13).trans e14).trans e15
  have rw15 : Reps H15 (([(([] : List Int), ((1, 3) : Fx))]).map tpD) [.ref c3] := ⟨_, [], rfl, Rep.tp (e15 _ _ h14) (((e13.trans e14).trans e15) _ _ h12) ((e14.trans e15) _ _ h13), rfl⟩
  refine fun wa wx hwa hwx hwn => g_polyA rfl (e1115.ey.tabs hT11) (.inr ⟨c4, _, rfl, .inl h15, rw15⟩) fit13 (fun t ht => by simp only [List.mem_cons, List.not_mem_nil, or_false] at ht; subst ht; exact Nat.zero_le _) hwa hwx hwn fun H16 y16 pw16 => ?_
  have y1116 := e1115.ey.trans y16
  have bx16 := bx11.ey y1116
  have yb16 : By (tabs T) p H H16 := yb11.trans (y1116.by_ p)
  have ps16 := ps11.ey y1116
  have pm16 := pm11.ey y1116
  have hT16 := yb16.tabs hT
  walk_at "go"
  have hl16 : H16 l = some (.lst us) := yb16.keep l _ nlp hl trivial
  have ru16 := ru.tk (yb16.tkB hb) (tps_hard ts)
  refine ⟨fun σ H17 => ∃ (wp : Addr) (m : Int) (wt : List Tp) (o7 o8 : Option V), σ = [some (.ref p), some (.int n), some (.ref l), some (.ref r), some (.ref sa), some (.ref ma), some (.ref wp), o7, o8] ∧ Ey (tabs T) H16 H17 ∧ PolyAt T.a_Poly H17 wp m wt ∧ m ≠ (n : Int), ?_, ?_⟩
  · walk_at "go"
    refine i_d (fun c => ?_) fun c => ?_
    · walk_at "go"
      refine g_make ?_
      walk_at "go"
      refine .inl ?_
      walk_at "go"
      refine ⟨l, rfl, ⟨_, sqL hl16⟩, fun D hD => ?_⟩
      refine lc_mapE walk_list (fun j H2 v => ∃ t, ts[j]? = some t ∧ Rep H2 (tpD (t.1 ++ [0], t.2)) v) (by omega) hD (fun j H1 H2 v tk r => ⟨r.choose, r.choose_spec.1, r.choose_spec.2.tk tk (tp_hard _)⟩) (fun H2 e2 => sqL (e2 _ _ hl16)) ?_ ?_
      · rintro j y H2 H3 P N hj e2 ⟨rfl, hy⟩ k
        obtain ⟨dd, ed, rd⟩ := ru16.get hy
        rw [List.getElem?_map] at ed
        cases ct : ts[j]? with
        | none => rw [ct] at ed; cases ed
        | some t =>
        rw [ct] at ed
        cases ed
        obtain ⟨ya, pa', qa, rfl, h1', h2', h3'⟩ := tp_at (rd.ex e2)
        refine g_tup2 h1' ?_
        walk_at "go"
        refine ⟨rfl, ?_⟩
        walk_at "go"
        refine ⟨by show 1 ≤ sizeLine; decide, fun d1 hd1 => ?_⟩
        obtain ⟨K1, eqk1, ek1, hk1⟩ := nw_o (.tup [.int 0]) hd1
        rw [eqk1]
        walk_at "go"
        refine g_catT (ek1 _ _ h2') hk1 (by rw [List.length_map]; have := (dr.each t (List.mem_of_getElem? ct)).1.1; show _ + 1 ≤ _; omega) fun d2 K2 ek2 hk2 => ?_
        walk_at "go"
        refine ⟨by show 2 ≤ sizeLine; decide, fun d3 hd3 => ?_⟩
        obtain ⟨K3, eqk3, ek3, hk3⟩ := nw_o (.tup [.ref d2, .ref qa]) hd3
        rw [eqk3]
        exact k _ _ ((ek1.trans ek2).trans ek3) ⟨t, ct, Rep.tp hk3 (by rw [List.map_append]; exact ek3 _ _ hk2) (((ek1.trans ek2).trans ek3) _ _ h3')⟩
      intro H8 acc e8 hacc hla hr2
      have ra : Reps H8 ((wideP ts).map tpD) acc := by
        refine reps_at (by unfold wideP; rw [hla, lu, List.length_map]) fun j v hv => ?_
        obtain ⟨t, ct, rt⟩ := hr2 j v hv
        exact ⟨_, by unfold wideP; rw [List.getElem?_map, ct]; rfl, rt⟩
      obtain ⟨fit3, le3⟩ := wide_fit dr
      walk_at "go"
      refine fun va vx hva hvx hvn => g_polyA rfl (e8.ey.tabs hT16) (.inr ⟨D, _, rfl, .inl hacc, ra⟩) fit3 (fun t ht => by rw [le3 t ht]; omega) hva hvx hvn fun H18 y18 pv18 => ?_
      walk_at "go"
      exact ⟨va, _, _, _, _, rfl, e8.ey.trans y18, pv18, by omega⟩
    · walk_at "go"
      exact ⟨wa, 0, _, none, none, rfl, Ey.refl _, pw16, by omega⟩
  rintro σ H17 ⟨wp, m, wt, o7, o8, rfl, y17, pw, nm⟩
  have bx17 := bx16.ey y17
  have yb17 : By (tabs T) p H H17 := yb16.trans (y17.by_ p)
  have pa17 := pa.by_ yb17 hb
  have ps17 := ps16.ey y17
  have pm17 := pm16.ey y17
  walk_at "go"
  refine g_eqPP pa17 ps17 fun H18 e18 => ?_
  rw [decide_eq_true (⟨rfl, rfl⟩ : (n : Int) = n ∧ polyP ts = polyP ts)]
  walk_at "go"
  refine g_notBl ?_
  walk_at "go"
  refine (if_neg (by decide)).mpr ?_
  walk_at "go"
  refine g_eqPP (ps17.ex e18) (pa17.ex e18) fun H19 e19 => ?_
  rw [decide_eq_true (⟨rfl, rfl⟩ : (n : Int) = n ∧ polyP ts = polyP ts)]
  walk_at "go"
  refine g_notBl ?_
  walk_at "go"
  refine (if_neg (by decide)).mpr ?_
  walk_at "go"
  have e119 := e18.trans e19
  obtain ⟨dx, l0, vs0, hp0, _, _⟩ := id pa17
  refine g_self (e119 _ _ hp0) flPo_terms ?_
  walk_at "go"
  refine ⟨r, n, polyP ts, rfl, pa17.ex e119, fun q1' ws1' H20 e20 n20 h20 r20 => ?_⟩
  walk_at "go"
  refine g_tupOf h20 fun q3 hq3 => ?_
  obtain ⟨H21, eq21, e21, h21⟩ := nw_o (.tup ws1') hq3
  rw [eq21]
  have e121 := (e119.trans e20).trans e21
  walk_at "go"
  refine g_eqPT (pa17.ex e121) h21 fun H22 e22 => ?_
  walk_at "go"
  refine g_notBl ?_
  walk_at "go"
  refine (if_neg (by decide)).mpr ?_
  walk_at "go"
  have e122 := e121.trans e22
  have ne1 : polyP ts ≠ polyP (moreP n ts) := fun z => more_ne low z.symm
  refine g_eqPP (pa17.ex e122) (pm17.ex e122) fun H23 e23 => ?_
  rw [decide_eq_false (fun z : (n : Int) = n ∧ polyP ts = polyP (moreP n ts) => ne1 z.2)]
  walk_at "go"
  refine ⟨false, false, rfl, rfl, true, rfl, ?_⟩
  refine (if_pos rfl).mpr ?_
  have e123 := e122.trans e23
  walk_at "go"
  refine g_eqPP (pm17.ex e123) (pa17.ex e123) fun H24 e24 => ?_
  rw [decide_eq_false (fun z : (n : Int) = n ∧ polyP (moreP n ts) = polyP ts => ne1 z.2.symm)]
  have e124 := e123.trans e24
  walk_at "go"
  refine ⟨false, false, rfl, rfl, true, rfl, ?_⟩
  refine (if_pos rfl).mpr ?_
  walk_at "go"
  refine g_eqPP (pa17.ex e124) (pw.ex e124) fun H25 e25 => ?_
  rw [decide_eq_false (fun z : (n : Int) = m ∧ polyP ts = wt => nm z.1.symm)]
  walk_at "go"
  refine ⟨false, false, rfl, rfl, ?_⟩
  walk_at "go"
  have e125 := e124.trans e25
  exact q H25 (yb17.trans (e125.by_ p)) (bx17.ex e125)
theorem vi_Poly_plus_0 : Vis (defScope s_Poly_plus) "self" := by first | exact Or.inl (by decide +kernel) | exact Or.inr (Or.inl (by decide +kernel)) | exact Or.inr (Or.inr (by decide +kernel))
theorem vi_Poly_plus_1 : Vis (defScope s_Poly_plus) "other" := by first | exact Or.inl (by decide +kernel) | exact Or.inr (Or.inl (by decide +kernel)) | exact Or.inr (Or.inr (by decide +kernel))
theorem ok_Poly_plus (T : Txt K mg base) : FnOk P w K mg base (L2.CX P w) 7 T.a_Poly_plus T.d_Poly_plus ["self", "other"] (spPoPlus (tabs T) T.a_Poly) := by
  refine T.F_Poly_plus.okX sc_Poly_plus (fun vs H Q E h => ?_) (fun cdv A outer s H vs Q E hr h => ?_)
  · obtain ⟨_, _, _, _, _, _, _, _, rfl, _⟩ := h
    rfl
  obtain ⟨p, p2, n, m, ts, us, A0, N, rfl, ⟨dx, l, vs, hp, hl, rl⟩, ⟨dx2, l2, vs2, hp2, hl2, rl2⟩, hT, fit, lens, q⟩ := h
  refine ⟨_, (pss_one (ps_ret (pe_makeD T.mk_Poly (ok_Poly_init T) (hr.mono (by decide)) rfl T.m_Poly T.b_Poly_init .nil (fun σ => passAt (takes_of rfl rfl rfl rfl) σ) (pa_cons (pe_fld (uv 0 (hv := vi_Poly_plus_0)) rfl) (pa_cons (pe_op uo_add (pe_fld (uv 0 (hv := vi_Poly_plus_0)) rfl) (pe_fld (uv 1 (hv := vi_Poly_plus_1)) rfl)) pa_nil))))), ?_⟩
  have lv : vs.length = ts.length := by rw [rl.len, List.length_map]
  have lv2 : vs2.length = us.length := by rw [rl2.len, List.length_map]
  have lt := fit.len
  rw [List.length_append] at lt
  walk_at "go"
  refine g_make ?_
  walk_at "go"
  refine g_fldO hp T.cl_Poly T.na_Poly_boxes flPoB ?_
  walk_at "go"
  refine g_fldO hp T.cl_Poly T.na_Poly_kept flPoK ?_
  walk_at "go"
  refine g_fldO hp2 T.cl_Poly T.na_Poly_kept flPoK ?_
  refine g_catL hl hl2 (by omega) fun L hL => ?_
  walk_at "go"
  have e1 : Ex H (upd H L (.lst (vs ++ vs2))) := Ex.new hL
  have hL1 := @upd_same H L (.lst (vs ++ vs2))
  refine g_poly rfl (e1.ey.tabs hT) (.inr ⟨L, _, rfl, .inl hL1, by rw [List.map_append]; exact (rl.ex e1).append (rl2.ex e1)⟩) fit lens fun r H' ey hr pa => ?_
  exact q r H' (e1.ey.trans ey) (e1.free hr) pa
theorem vi_Poly_by_0 : Vis (defScope s_Poly_by) "self" := by first | exact Or.inl (by decide +kernel) | exact Or.inr (Or.inl (by decide +kernel)) | exact Or.inr (Or.inr (by decide +kernel))
theorem vi_Poly_by_1 : Vis (defScope s_Poly_by) "other" := by first | exact Or.inl (by decide +kernel) | exact Or.inr (Or.inl (by decide +kernel)) | exact Or.inr (Or.inr (by decide +kernel))
theorem vi_Poly_by_2 : Vis (defScope s_Poly_by) "found" := by first | exact Or.inl (by decide +kernel) | exact Or.inr (Or.inl (by decide +kernel)) | exact Or.inr (Or.inr (by decide +kernel))
theorem vi_Poly_by_3 : Vis (defScope s_Poly_by) "exponents" := by first | exact Or.inl (by decide +kernel) | exact Or.inr (Or.inl (by decide +kernel)) | exact Or.inr (Or.inr (by decide +kernel))
theorem vi_Poly_by_4 : Vis (defScope s_Poly_by) "number" := by first | exact Or.inl (by decide +kernel) | exact Or.inr (Or.inl (by decide +kernel)) | exact Or.inr (Or.inr (by decide +kernel))
theorem vi_Poly_by_5 : Vis (defScope s_Poly_by) "more" := by first | exact Or.inl (by decide +kernel) | exact Or.inr (Or.inl (by decide +kernel)) | exact Or.inr (Or.inr (by decide +kernel))
theorem vi_Poly_by_6 : Vis (defScope s_Poly_by) "factor" := by first | exact Or.inl (by decide +kernel) | exact Or.inr (Or.inl (by decide +kernel)) | exact Or.inr (Or.inr (by decide +kernel))
theorem vi_Poly_by_7 : Vis (defScope s_Poly_by) "both" := by first | exact Or.inl (by decide +kernel) | exact Or.inr (Or.inl (by decide +kernel)) | exact Or.inr (Or.inr (by decide +kernel))
theorem lo_Poly_by_2 : Loc (defScope s_Poly_by) "found" := by first | exact Or.inl (by decide +kernel) | exact Or.inr (by decide +kernel)
theorem lo_Poly_by_3 : Loc (defScope s_Poly_by) "exponents" := by first | exact Or.inl (by decide +kernel) | exact Or.inr (by decide +kernel)
theorem lo_Poly_by_4 : Loc (defScope s_Poly_by) "number" := by first | exact Or.inl (by decide +kernel) | exact Or.inr (by decide +kernel)
theorem lo_Poly_by_5 : Loc (defScope s_Poly_by) "more" := by first | exact Or.inl (by decide +kernel) | exact Or.inr (by decide +kernel)
theorem lo_Poly_by_6 : Loc (defScope s_Poly_by) "factor" := by first | exact Or.inl (by decide +kernel) | exact Or.inr (by decide +kernel)
theorem lo_Poly_by_7 : Loc (defScope s_Poly_by) "both" := by first | exact Or.inl (by decide +kernel) | exact Or.inr (by decide +kernel)
theorem ok_Poly_by (T : Txt K mg base) : FnOk P w K mg base (L2.CX P w) 7 T.a_Poly_by T.d_Poly_by ["self", "other"] (spPoBy (tabs T) T.a_Poly) := by
  refine T.F_Poly_by.okX sc_Poly_by (fun vs H Q E h => ?_) (fun cdv A outer s H vs Q E hr h => ?_)
  · obtain ⟨_, _, _, _, _, _, _, _, _, _, _, _, rfl, _⟩ := h
    rfl
  obtain ⟨p, p2, n, m, ts, us, A0, N, A1, N1, A2, N2, rfl, ⟨dx, l, vs, hp, hl, rl⟩, ⟨dx2, l2, vs2, hp2, hl2, rl2⟩, hT, fit, fit1, fit2, leq, lens, q⟩ := h
  refine ⟨_, (pss_cons (ps_set (i := 2) sc_Poly_by.nd rfl lo_Poly_by_2 (pe_lst pa_nil))
      (pss_cons (ps_for (passes_of rfl) rfl (ui_seq (pe_fld (uv 0 (hv := vi_Poly_by_0)) rfl)) (pg_tup rfl (pgs_cons (pg_name (i := 3) sc_Poly_by.nd rfl lo_Poly_by_3) (pgs_cons (pg_name (i := 4) sc_Poly_by.nd rfl lo_Poly_by_4) pgs_nil))) (pss_one (ps_for (passes_of rfl) rfl (ui_seq (pe_fld (uv 1 (hv := vi_Poly_by_1)) rfl)) (pg_tup rfl (pgs_cons (pg_name (i := 5) sc_Poly_by.nd rfl lo_Poly_by_5) (pgs_cons (pg_name (i := 6) sc_Poly_by.nd rfl lo_Poly_by_6) pgs_nil))) (pss_cons (ps_set (i := 7) sc_Poly_by.nd rfl lo_Poly_by_7 (pe_callTy uk_tup rfl T.z_tuple boot_tuple (pa_cons (pe_lc (own := [("e", 8), ("f", 9)]) (g := gTup K 2 (gCons (gName 8) (gCons (gName 9) gNil))) rfl sc_Poly_by.nd (pi_zipS rfl T.z_zip (pa_cons (uv 3 (hv := vi_Poly_by_3)) (pa_cons (uv 5 (hv := vi_Poly_by_5)) pa_nil)) pe_bl) (blkOk_by (own := [("e", 8), ("f", 9)]) (N := N_Poly_by) (sc := defScope s_Poly_by) (by decide +kernel)) (fun _ _ _ _ _ => (pg_tup rfl (pgs_cons (pg_name (i := 8) sc_Poly_by.nd rfl (by first | exact Or.inl rfl | exact Or.inr rfl)) (pgs_cons (pg_name (i := 9) sc_Poly_by.nd rfl (by first | exact Or.inl rfl | exact Or.inr rfl)) pgs_nil)))) (fun _ _ _ _ _ => pts_nil) (fun _ _ _ _ _ => (pe_op (show OpR _ (binaryOp .Add) (uAdd K) from uo_add) (uv 8) (uv 9)))) pa_nil)))
      (pss_one (ps_expr (pe_bm PySem.F.plainAttrs_list PySem.F.slot_list_append PySem.F.type_list_append mt_append (uv 2 (hv := vi_Poly_by_2)) (pa_cons (pe_tup (pa_cons (uv 7 (hv := vi_Poly_by_7)) (pa_cons (pe_callD (ok_multiplied T) (hr.mono (by decide)) rfl T.m_multiplied T.F_multiplied.kp T.b_multiplied .nil (fun σ => passAt (takes_of rfl rfl rfl rfl) σ) (pa_cons (uv 4 (hv := vi_Poly_by_4)) (pa_cons (uv 6 (hv := vi_Poly_by_6)) pa_nil))) pa_nil))) pa_nil))))))))
      (pss_one (ps_ret (pe_makeD T.mk_Poly (ok_Poly_init T) (hr.mono (by decide)) rfl T.m_Poly T.b_Poly_init .nil (fun σ => passAt (takes_of rfl rfl rfl rfl) σ) (pa_cons (pe_fld (uv 0 (hv := vi_Poly_by_0)) rfl) (pa_cons (uv 2 (hv := vi_Poly_by_2)) pa_nil))))))), ?_⟩
  have lv : vs.length = ts.length := by rw [rl.len, List.length_map]
  have lv2 : vs2.length = us.length := by rw [rl2.len, List.length_map]
  have lt := fit.len
  walk_at "go"
  refine g_new fun F hF => ?_
  have e1 : Ex H (upd H F (.lst [])) := Ex.new hF
  have hF1 := @upd_same H F (.lst [])
  revert e1 hF1
  generalize upd H F (.lst []) = H1
  intro e1 hF1
  walk_at "go"
  refine .inl ?_
  refine g_fld ?_
  walk_at "go"
  refine g_fldO (e1 _ _ hp) T.cl_Poly T.na_Poly_kept flPoK ?_
  refine ⟨l, rfl, ⟨_, sqL (e1 _ _ hl)⟩, ?_⟩
  refine for_itC walk_list (fun i σ H4 => (∃ o3 o4 o5 o6 o7 o8 o9, σ = [some (.ref p), some (.ref p2), some (.ref F), o3, o4, o5, o6, o7, o8, o9]) ∧ Ex H H4 ∧ ∃ acc, H4 F = some (.lst acc) ∧ Reps H4 ((mulP (ts.take i) us).map tpD) acc) ⟨⟨_, _, _, _, _, _, _, rfl⟩, e1, [], hF1, rfl⟩ (fun i σ H4 _ pv => sqL (pv.2.1 _ _ hl)) ?_ ?_
  · rintro RT BK i y σ H4 H4' hi ⟨⟨o3, o4, o5, o6, o7, o8, o9, rfl⟩, e4, acc, ha, ra⟩ ⟨rfl, hy⟩
    obtain ⟨dd, ed, rd⟩ := rl.get hy
    rw [List.getElem?_map] at ed
    cases ct : ts[i]? with
    | none => rw [ct] at ed; cases ed
    | some t =>
    rw [ct] at ed
    cases ed
    obtain ⟨ya, pa, qa, rfl, h1, h2, h3⟩ := tp_at rd
    refine g_tup2 (e4 _ _ h1) ?_
    walk_at "go"
    refine .inl ?_
    refine g_fld ?_
    walk_at "go"
    refine g_fldO (e4 _ _ hp2) T.cl_Poly T.na_Poly_kept flPoK ?_
    refine ⟨l2, rfl, ⟨_, sqL (e4 _ _ hl2)⟩, ?_⟩
    have mt : mulP (ts.take (i + 1)) us = mulP (ts.take i) us ++ us.map fun u => (t.1.zipWith (· + ·) u.1, mulF t.2 u.2) := by unfold mulP; rw [flat_take _ ct]
    have mle : (mulP (ts.take (i + 1)) us).length ≤ (mulP ts us).length := flat_take_le _ ts (i + 1)
    have sz1 := fit1.each t (List.mem_of_getElem? ct)
    obtain ⟨s1, s2, s3⟩ := fit1.num (by rw [Nat.add_mul]; exact Nat.le_trans (by omega) (Nat.le_add_left _ _)) sz1
    refine for_itC walk_list (fun j σ H5 => (∃ o5 o6 o7 o8 o9, σ = [some (.ref p), some (.ref p2), some (.ref F), some (.ref pa), some (.ref qa), o5, o6, o7, o8, o9]) ∧ Ex H H5 ∧ ∃ acc, H5 F = some (.lst acc) ∧ Reps H5 ((mulP (ts.take i) us ++ (us.take j).map fun u => (t.1.zipWith (· + ·) u.1, mulF t.2 u.2)).map tpD) acc) ⟨⟨_, _, _, _, _, rfl⟩, e4, acc, ha, by simpa using ra⟩ (fun j σ H5 _ pv => sqL (pv.2.1 _ _ hl2)) ?_ ?_
    · rintro RT BK j y σ H5 H5' hj ⟨⟨o5, o6, o7, o8, o9, rfl⟩, e5, acc, ha, ra⟩ ⟨rfl, hy⟩
      obtain ⟨dd, ed, rd⟩ := rl2.get hy
      rw [List.getElem?_map] at ed
      cases cu : us[j]? with
      | none => rw [cu] at ed; cases ed
      | some u =>
      rw [cu] at ed
      cases ed
      obtain ⟨yb, pb, qb, rfl, g1, g2, g3⟩ := tp_at rd
      have tu := leq t (List.mem_of_getElem? ct) u (List.mem_of_getElem? cu)
      have sz2 := fit2.each u (List.mem_of_getElem? cu)
      obtain ⟨z1, z2, z3⟩ := fit2.num (by rw [Nat.add_mul]; exact Nat.le_trans (by omega) (Nat.le_add_left _ _)) sz2
      have le1 : t.1.length ≤ 100000 := by
        have hm : (t.1.zipWith (· + ·) u.1, mulF t.2 u.2) ∈ mulP ts us := List.mem_flatten.mpr ⟨_, List.mem_map.mpr ⟨t, List.mem_of_getElem? ct, rfl⟩, List.mem_map.mpr ⟨u, List.mem_of_getElem? cu, rfl⟩⟩
        have := lens _ hm
        rw [List.length_zipWith] at this
        omega
      refine g_tup2 (e5 _ _ g1) ?_
      walk_at "go"
      refine ⟨true, true, pa, pb, _, _, rfl, sqT (e5 _ _ h2), sqT (e5 _ _ g2), fun D hD => ?_⟩
      refine lc_mapE (walk_zipS (by rw [List.length_map, List.length_map]; exact tu)) (fun j _ v => ∃ x, (t.1.zipWith (· + ·) u.1)[j]? = some x ∧ v = .int x) (by rw [List.length_map]; omega) hD (fun _ _ _ _ _ r => r) (fun H2 e2 => ⟨sqT (e2 _ _ (e5 _ _ h2)), sqT (e2 _ _ (e5 _ _ g2))⟩) ?_ ?_
      · rintro w y H6 H7 P N hj e6 ⟨T6, x1, x2, rfl, hT6, rfl, k1, k2⟩ k
        replace k1 : (t.1.map V.int)[w]? = some x1 := k1
        replace k2 : (u.1.map V.int)[w]? = some x2 := k2
        rw [List.getElem?_map] at k1 k2
        cases c1 : t.1[w]? with
        | none => rw [c1] at k1; cases k1
        | some a1 =>
        cases c2 : u.1[w]? with
        | none => rw [c2] at k2; cases k2
        | some a2 =>
        rw [c1] at k1
        rw [c2] at k2
        cases k1
        cases k2
        refine g_tup2 upd_same ?_
        walk_at "go"
        refine ⟨rfl, ?_⟩
        walk_at "go"
        exact k _ _ (Ex.new hT6) ⟨a1 + a2, by rw [List.getElem?_zipWith, c1, c2], rfl⟩
      intro H6 ac e6 hac hla hr2
      have ea : ac = (t.1.zipWith (· + ·) u.1).map V.int := by
        have := acc_intsF (f := id) (e := t.1.zipWith (· + ·) u.1) (by rw [hla, List.length_map, List.length_zipWith]; omega) hr2
        rwa [List.map_id] at this
      subst ea
      walk_at "go"
      refine g_tupOf hac fun b hb => ?_
      have e7 : Ex H6 (upd H6 b (.tup ((t.1.zipWith (· + ·) u.1).map V.int))) := Ex.new hb
      have h7 := @upd_same H6 b (.tup ((t.1.zipWith (· + ·) u.1).map V.int))
      revert e7 h7
      generalize upd H6 b (.tup ((t.1.zipWith (· + ·) u.1).map V.int)) = H7
      intro e7 h7
      have x7 := e6.trans e7
      walk_at "go"
      refine g_tyL (x7 _ _ ha) ?_
      walk_at "go"
      refine ⟨qa, qb, t.2, u.2, rfl, x7 _ _ (e5 _ _ h3), x7 _ _ (e5 _ _ g3), s1, z1, s2, s3, z2, z3, fun q1 H8 e8 h8 => ?_⟩
      walk_at "go"
      refine g_new fun mm hm => ?_
      have e9 : Ex H8 (upd H8 mm (.tup [.ref b, .ref q1])) := Ex.new hm
      have h9 := @upd_same H8 mm (.tup [.ref b, .ref q1])
      revert e9 h9
      generalize upd H8 mm (.tup [.ref b, .ref q1]) = H9
      intro e9 h9
      have x9 := (x7.trans e8).trans e9
      have ha9 := x9 _ _ ha
      have lacc : acc.length ≤ 100000 := by
        have l1 := ra.len
        rw [List.length_map, List.length_append, List.length_map, List.length_take] at l1
        rw [mt, List.length_append, List.length_map] at mle
        omega
      walk_at "go"
      refine g_app ha9 (Nat.lt_of_le_of_lt lacc (by decide)) ?_
      have t10 : Tk H9 (upd H9 F (.lst (acc ++ [.ref mm]))) := (But.refl F H9).upd.tkl ha9
      walk_at "go"
      refine ⟨⟨_, _, _, _, _, rfl⟩, (e5.trans x9).at_new hF, _, upd_same, ?_⟩
      have zz : (mulP (ts.take i) us ++ (us.take (j + 1)).map fun u => (t.1.zipWith (· + ·) u.1, mulF t.2 u.2)).map tpD = (mulP (ts.take i) us ++ (us.take j).map fun u => (t.1.zipWith (· + ·) u.1, mulF t.2 u.2)).map tpD ++ [tpD (t.1.zipWith (· + ·) u.1, mulF t.2 u.2)] := by
        rw [take_at cu]
        simp
      rw [zz]
      exact ((ra.ex x9).tk t10 (tps_hard _)).append ⟨_, [], rfl, Rep.tp (t10 _ _ h9) (t10 _ _ (e9 _ _ (e8 _ _ h7))) (t10 _ _ (e9 _ _ h8)), rfl⟩
    · rintro σ H5 ⟨⟨o5, o6, o7, o8, o9, rfl⟩, e5, acc, ha, ra⟩
      rw [lv2, List.take_length] at ra
      refine ⟨⟨_, _, _, _, _, _, _, rfl⟩, e5, acc, ha, ?_⟩
      rw [mt]
      exact ra
  rintro σ H4 ⟨⟨o3, o4, o5, o6, o7, o8, o9, rfl⟩, e4, acc, ha, ra⟩
  rw [lv, List.take_length] at ra
  walk_at "go"
  refine g_make ?_
  walk_at "go"
  refine g_fldO (e4 _ _ hp) T.cl_Poly T.na_Poly_boxes flPoB ?_
  walk_at "go"
  refine g_poly rfl (e4.ey.tabs hT) (.inr ⟨F, _, rfl, .inl ha, ra⟩) fit lens fun r H' ey hr pa => ?_
  exact q r H' (e4.ey.trans ey) (e4.free hr) pa
theorem vi_Poly_scaled_0 : Vis (defScope s_Poly_scaled) "self" := by first | exact Or.inl (by decide +kernel) | exact Or.inr (Or.inl (by decide +kernel)) | exact Or.inr (Or.inr (by decide +kernel))
theorem ok_Poly_scaled (T : Txt K mg base) : FnOk P w K mg base (L2.CX P w) 7 T.a_Poly_scaled T.d_Poly_scaled ["self", "number"] (spPoScaled (tabs T) T.a_Poly) := by
  refine T.F_Poly_scaled.okX sc_Poly_scaled (fun vs H Q E h => ?_) (fun cdv A outer s H vs Q E hr h => ?_)
  · obtain ⟨_, _, _, _, _, _, _, _, _, rfl, _⟩ := h
    rfl
  obtain ⟨p, r, f, n, ts, A0, N, A1, N1, rfl, hf, ⟨dx, l, vs, hp, hl, rl⟩, hT, fit, fit1, f0, fb1, fb2, lens, q⟩ := h
  refine ⟨_, (pss_one (ps_ret (pe_makeD T.mk_Poly (ok_Poly_init T) (hr.mono (by decide)) rfl T.m_Poly T.b_Poly_init .nil (fun σ => passAt (takes_of rfl rfl rfl rfl) σ) (pa_cons (pe_fld (uv 0 (hv := vi_Poly_scaled_0)) rfl) (pa_cons (pe_lc (own := [("exponents", 2), ("own", 3)]) (g := gTup K 2 (gCons (gName 2) (gCons (gName 3) gNil))) rfl sc_Poly_scaled.nd (ui_seq (pe_fld (uv 0 (hv := vi_Poly_scaled_0)) rfl)) (blkOk_by (own := [("exponents", 2), ("own", 3)]) (N := N_Poly_scaled) (sc := defScope s_Poly_scaled) (by decide +kernel)) (fun _ _ _ _ _ => (pg_tup rfl (pgs_cons (pg_name (i := 2) sc_Poly_scaled.nd rfl (by first | exact Or.inl rfl | exact Or.inr rfl)) (pgs_cons (pg_name (i := 3) sc_Poly_scaled.nd rfl (by first | exact Or.inl rfl | exact Or.inr rfl)) pgs_nil)))) (fun _ _ _ _ _ => pts_nil) (fun _ _ _ _ _ => (pe_tup (pa_cons (uv 2) (pa_cons (pe_callD (ok_multiplied T) (hr.mono (by decide)) rfl T.m_multiplied T.F_multiplied.kp T.b_multiplied .nil (fun _ => passAt0) (pa_cons (uv 3) (pa_cons (uv 1) pa_nil))) pa_nil))))) pa_nil))))), ?_⟩
  have lv : vs.length = ts.length := by rw [rl.len, List.length_map]
  have lt := fit1.len
  walk_at "go"
  refine g_make ?_
  walk_at "go"
  refine g_fldO hp T.cl_Poly T.na_Poly_boxes flPoB ?_
  walk_at "go"
  refine .inl ?_
  refine g_fld ?_
  walk_at "go"
  refine g_fldO hp T.cl_Poly T.na_Poly_kept flPoK ?_
  refine ⟨l, rfl, ⟨_, sqL hl⟩, fun D hD => ?_⟩
  refine lc_mapE walk_list (fun j H2 v => ∃ t, (scaleP ts f)[j]? = some t ∧ Rep H2 (tpD t) v) (by omega) hD (fun _ _ _ _ tk ⟨t, a, b⟩ => ⟨t, a, b.tk tk (tp_hard t)⟩) (fun H2 e2 => sqL (e2 _ _ hl)) ?_ ?_
  · rintro j y H2 H3 P N hj e2 ⟨rfl, hy⟩ k
    obtain ⟨dd, ed, rd⟩ := rl.get hy
    rw [List.getElem?_map] at ed
    cases ct : ts[j]? with
    | none => rw [ct] at ed; cases ed
    | some t =>
    rw [ct] at ed
    cases ed
    obtain ⟨ya, pa, qa, rfl, h1, h2, h3⟩ := tp_at (rd.ex e2)
    have sz := fit1.each t (List.mem_of_getElem? ct)
    obtain ⟨s1, s2, s3⟩ := fit1.num (by rw [Nat.add_mul]; exact Nat.le_trans (by omega) (Nat.le_add_left _ _)) sz
    refine g_tup2 h1 ?_
    walk_at "go"
    refine ⟨rfl, ?_⟩
    walk_at "go"
    refine ⟨qa, r, t.2, f, rfl, h3, e2 _ _ hf, s1, f0, s2, s3, fb1, fb2, fun q1 H5 e5 h5 => ?_⟩
    walk_at "go"
    refine g_new fun m hm => ?_
    have e6 : Ex H5 (upd H5 m (.tup [.ref pa, .ref q1])) := Ex.new hm
    refine k _ _ (e5.trans e6) ⟨(t.1, mulF t.2 f), by unfold scaleP; rw [List.getElem?_map, ct]; rfl, Rep.tp upd_same (e6 _ _ (e5 _ _ h2)) (e6 _ _ h5)⟩
  intro H1 acc e1 hacc hla hr2
  have ra : Reps H1 ((scaleP ts f).map tpD) acc := reps_at (by unfold scaleP; rw [hla, lv, List.length_map]) hr2
  walk_at "go"
  refine g_poly rfl (e1.ey.tabs hT) (.inr ⟨D, _, rfl, .inl hacc, ra⟩) fit (fun t ht => ?_) fun r H' ey hr pa => ?_
  · obtain ⟨u, hu, rfl⟩ := List.mem_map.mp ht
    exact lens u hu
  · exact q r H' (e1.ey.trans ey) (e1.free hr) pa
theorem vi_law_right_0 : Vis (defScope s_law_right) "_law_box_here" := by first | exact Or.inl (by decide +kernel) | exact Or.inr (Or.inl (by decide +kernel)) | exact Or.inr (Or.inr (by decide +kernel))
theorem vi_law_right_1 : Vis (defScope s_law_right) "_law_boxes" := by first | exact Or.inl (by decide +kernel) | exact Or.inr (Or.inl (by decide +kernel)) | exact Or.inr (Or.inr (by decide +kernel))
theorem vi_law_right_2 : Vis (defScope s_law_right) "_law_one" := by first | exact Or.inl (by decide +kernel) | exact Or.inr (Or.inl (by decide +kernel)) | exact Or.inr (Or.inr (by decide +kernel))
theorem vi_law_right_3 : Vis (defScope s_law_right) "_law_other" := by first | exact Or.inl (by decide +kernel) | exact Or.inr (Or.inl (by decide +kernel)) | exact Or.inr (Or.inr (by decide +kernel))
theorem vi_law_right_4 : Vis (defScope s_law_right) "_law_kept" := by first | exact Or.inl (by decide +kernel) | exact Or.inr (Or.inl (by decide +kernel)) | exact Or.inr (Or.inr (by decide +kernel))
theorem vi_law_right_5 : Vis (defScope s_law_right) "_law_handed" := by first | exact Or.inl (by decide +kernel) | exact Or.inr (Or.inl (by decide +kernel)) | exact Or.inr (Or.inr (by decide +kernel))
theorem vi_law_right_6 : Vis (defScope s_law_right) "_law_first" := by first | exact Or.inl (by decide +kernel) | exact Or.inr (Or.inl (by decide +kernel)) | exact Or.inr (Or.inr (by decide +kernel))
theorem vi_law_right_7 : Vis (defScope s_law_right) "_law_second" := by first | exact Or.inl (by decide +kernel) | exact Or.inr (Or.inl (by decide +kernel)) | exact Or.inr (Or.inr (by decide +kernel))
theorem vi_law_right_8 : Vis (defScope s_law_right) "_law_due" := by first | exact Or.inl (by decide +kernel) | exact Or.inr (Or.inl (by decide +kernel)) | exact Or.inr (Or.inr (by decide +kernel))
theorem vi_law_right_9 : Vis (defScope s_law_right) "_law_more" := by first | exact Or.inl (by decide +kernel) | exact Or.inr (Or.inl (by decide +kernel)) | exact Or.inr (Or.inr (by decide +kernel))
theorem vi_law_right_10 : Vis (defScope s_law_right) "_law_number_here" := by first | exact Or.inl (by decide +kernel) | exact Or.inr (Or.inl (by decide +kernel)) | exact Or.inr (Or.inr (by decide +kernel))
theorem vi_law_right_11 : Vis (defScope s_law_right) "_law_scaled" := by first | exact Or.inl (by decide +kernel) | exact Or.inr (Or.inl (by decide +kernel)) | exact Or.inr (Or.inr (by decide +kernel))
theorem vi_law_right_12 : Vis (defScope s_law_right) "_law_numbers" := by first | exact Or.inl (by decide +kernel) | exact Or.inr (Or.inl (by decide +kernel)) | exact Or.inr (Or.inr (by decide +kernel))
theorem lo_law_right_10 : Loc (defScope s_law_right) "_law_number_here" := by first | exact Or.inl (by decide +kernel) | exact Or.inr (by decide +kernel)
theorem lo_law_right_11 : Loc (defScope s_law_right) "_law_scaled" := by first | exact Or.inl (by decide +kernel) | exact Or.inr (by decide +kernel)
theorem lo_law_right_12 : Loc (defScope s_law_right) "_law_numbers" := by first | exact Or.inl (by decide +kernel) | exact Or.inr (by decide +kernel)
theorem ok_law_right (T : Txt K mg base) : FnG P w K mg base (L2.CX P w) 8 T.a_law_right T.d_law_right ["_law_box_here", "_law_boxes", "_law_one", "_law_other"] (spRight03 (tabs T) T.a_Poly) := by
  refine fun_okG T.F_law_right sc_law_right (fun vs H Q E h => ?_) (fun cdv A outer s H vs Q E hr hgd h => ?_)
  · obtain ⟨_, _, _, _, _, _, _, _, _, _, rfl, _⟩ := h
    rfl
  obtain ⟨p, l, m, us, vs2, ts, ws, n, k, k2, rfl, hb, hT, hl, ru, hm, rv, dr, dw, hn, hk, hk2, q⟩ := h
  refine ⟨_, (pss_cons (ps_par (i := 4) (j := 5) rfl sc_law_right.nd rfl rfl (by decide) rfl rfl (pa_cons (pe_callB (uk_reprW hr.units hgd) rfl T.z_repr boot_repr (pa_cons (pe_lst (pa_cons (uv 2 (hv := vi_law_right_2)) (pa_cons (uv 3 (hv := vi_law_right_3)) pa_nil))) pa_nil)) (pa_cons (pe_callTy uk_list rfl T.z_list boot_list (pa_cons (uv 2 (hv := vi_law_right_2)) pa_nil)) pa_nil)) rfl)
      (pss_cons (ps_par (i := 6) (j := 7) rfl sc_law_right.nd rfl rfl (by decide) rfl rfl (pa_cons (pe_makeD T.mk_Poly (ok_Poly_init T) (hr.mono (by decide)) rfl T.m_Poly T.b_Poly_init .nil (fun σ => passAt (takes_of rfl rfl rfl rfl) σ) (pa_cons (uv 1 (hv := vi_law_right_1)) (pa_cons (uv 5 (hv := vi_law_right_5)) pa_nil))) (pa_cons (pe_makeN (n := 1) (E := fun _ _ _ => False) T.mk_Poly (ok_Poly_init T) (hr.mono (by decide)) rfl T.m_Poly (kb_Poly T).choose_spec passL (pa_cons (uv 1 (hv := vi_law_right_1)) pa_nil) (pk_cons (pe_callTy uk_tup rfl T.z_tuple boot_tuple (pa_cons (uv 3 (hv := vi_law_right_3)) pa_nil)) pk_nil)) pa_nil)) rfl)
      (pss_cons (ps_expr (pe_bm0 PySem.F.plainAttrs_list PySem.F.slot_list_clear PySem.F.type_list_clear mt_clear (uv 5 (hv := vi_law_right_5))))
      (pss_cons (ps_par (i := 8) (j := 9) rfl sc_law_right.nd rfl rfl (by decide) rfl rfl (pa_cons (pe_callD (ok_law_gathered T) (hr.mono (by decide)) rfl T.m_law_gathered T.F_law_gathered.kp T.b_law_gathered .nil (fun σ => passAt (takes_of rfl rfl rfl rfl) σ) (pa_cons (uv 2 (hv := vi_law_right_2)) pa_nil)) (pa_cons (pe_callD (ok_law_gathered T) (hr.mono (by decide)) rfl T.m_law_gathered T.F_law_gathered.kp T.b_law_gathered .nil (fun σ => passAt (takes_of rfl rfl rfl rfl) σ) (pa_cons (uv 3 (hv := vi_law_right_3)) pa_nil)) pa_nil)) rfl)
      (pss_cons (ps_if (PW.pt (pw_or (pt_not (ut (pe_callD (ok_law_is T) (hr.mono (by decide)) rfl T.m_law_is T.F_law_is.kp T.b_law_is .nil (fun σ => passAt (takes_of rfl rfl rfl rfl) σ) (pa_cons (uv 6 (hv := vi_law_right_6)) (pa_cons (uv 1 (hv := vi_law_right_1)) (pa_cons (uv 8 (hv := vi_law_right_8)) pa_nil)))))) (pw_or (pt_not (ut (pe_callD (ok_law_is T) (hr.mono (by decide)) rfl T.m_law_is T.F_law_is.kp T.b_law_is .nil (fun σ => passAt (takes_of rfl rfl rfl rfl) σ) (pa_cons (uv 7 (hv := vi_law_right_7)) (pa_cons (uv 1 (hv := vi_law_right_1)) (pa_cons (uv 9 (hv := vi_law_right_9)) pa_nil)))))) (pw_or1 (pt_not (ut (pe_callD (ok_law_is T) (hr.mono (by decide)) rfl T.m_law_is T.F_law_is.kp T.b_law_is .nil (fun σ => passAt (takes_of rfl rfl rfl rfl) σ) (pa_cons (pe_makeD T.mk_Poly (ok_Poly_init T) (hr.mono (by decide)) rfl T.m_Poly T.bv_Poly_init1.choose_spec.2 T.bv_Poly_init1.choose_spec.1 (fun σ => passAt (takes_of rfl rfl rfl rfl) σ) (pa_cons (uv 1 (hv := vi_law_right_1)) pa_nil)) (pa_cons (uv 1 (hv := vi_law_right_1)) (pa_cons (pe_lst pa_nil) pa_nil)))))))))) (pss_one (ps_ret pe_bl)) pss_nil)
      (pss_cons (ps_if (PW.pt (pw_or (pt_not (ut (pe_callD (ok_law_is T) (hr.mono (by decide)) rfl T.m_law_is T.F_law_is.kp T.b_law_is .nil (fun σ => passAt (takes_of rfl rfl rfl rfl) σ) (pa_cons (pe_methD (uv 6 (hv := vi_law_right_6)) T.cl_Poly T.mt_Poly_plus (ok_Poly_plus T) (hr.mono (by decide)) T.b_Poly_plus .nil (fun σ => passAt (takes_of rfl rfl rfl rfl) σ) (pa_cons (uv 7 (hv := vi_law_right_7)) pa_nil)) (pa_cons (uv 1 (hv := vi_law_right_1)) (pa_cons (pe_callD (ok_law_gathered T) (hr.mono (by decide)) rfl T.m_law_gathered T.F_law_gathered.kp T.b_law_gathered .nil (fun σ => passAt (takes_of rfl rfl rfl rfl) σ) (pa_cons (pe_op uo_add (uv 2 (hv := vi_law_right_2)) (uv 3 (hv := vi_law_right_3))) pa_nil)) pa_nil)))))) (pw_or1 (pt_not (ut (pe_callD (ok_law_is T) (hr.mono (by decide)) rfl T.m_law_is T.F_law_is.kp T.b_law_is .nil (fun σ => passAt (takes_of rfl rfl rfl rfl) σ) (pa_cons (uv 7 (hv := vi_law_right_7)) (pa_cons (uv 1 (hv := vi_law_right_1)) (pa_cons (uv 9 (hv := vi_law_right_9)) pa_nil))))))))) (pss_one (ps_ret pe_bl)) pss_nil)
      (pss_cons (ps_if (pt_not (ut (pe_callD (ok_law_is T) (hr.mono (by decide)) rfl T.m_law_is T.F_law_is.kp T.b_law_is .nil (fun σ => passAt (takes_of rfl rfl rfl rfl) σ) (pa_cons (pe_methD (uv 6 (hv := vi_law_right_6)) T.cl_Poly T.mt_Poly_by (ok_Poly_by T) (hr.mono (by decide)) T.b_Poly_by .nil (fun σ => passAt (takes_of rfl rfl rfl rfl) σ) (pa_cons (uv 7 (hv := vi_law_right_7)) pa_nil)) (pa_cons (uv 1 (hv := vi_law_right_1)) (pa_cons (pe_callD (ok_law_product T) (hr.mono (by decide)) rfl T.m_law_product T.F_law_product.kp T.b_law_product .nil (fun σ => passAt (takes_of rfl rfl rfl rfl) σ) (pa_cons (uv 8 (hv := vi_law_right_8)) (pa_cons (uv 9 (hv := vi_law_right_9)) pa_nil))) pa_nil)))))) (pss_one (ps_ret pe_bl)) pss_nil)
      (pss_cons (ps_if (PW.pt (pw_or (pt_not (ut (pe_callD (ok_law_is T) (hr.mono (by decide)) rfl T.m_law_is T.F_law_is.kp T.b_law_is .nil (fun σ => passAt (takes_of rfl rfl rfl rfl) σ) (pa_cons (uv 7 (hv := vi_law_right_7)) (pa_cons (uv 1 (hv := vi_law_right_1)) (pa_cons (uv 9 (hv := vi_law_right_9)) pa_nil)))))) (pw_or1 (pt_not (ut (pe_callD (ok_law_is T) (hr.mono (by decide)) rfl T.m_law_is T.F_law_is.kp T.b_law_is .nil (fun σ => passAt (takes_of rfl rfl rfl rfl) σ) (pa_cons (pe_makeD T.mk_Poly (ok_Poly_init T) (hr.mono (by decide)) rfl T.m_Poly T.b_Poly_init .nil (fun σ => passAt (takes_of rfl rfl rfl rfl) σ) (pa_cons (uv 1 (hv := vi_law_right_1)) (pa_cons pe_non pa_nil))) (pa_cons (uv 1 (hv := vi_law_right_1)) (pa_cons (pe_lst pa_nil) pa_nil))))))))) (pss_one (ps_ret pe_bl)) pss_nil)
      (pss_cons (ps_set (i := 10) sc_law_right.nd rfl lo_law_right_10 (pe_callD (ok_law_number T) (hr.mono (by decide)) rfl T.m_law_number T.F_law_number.kp T.b_law_number .nil (fun σ => passAt (takes_of rfl rfl rfl rfl) σ) (pa_cons (uv 0 (hv := vi_law_right_0)) pa_nil)))
      (pss_cons (ps_set (i := 11) sc_law_right.nd rfl lo_law_right_11 (pe_callD (ok_law_gathered T) (hr.mono (by decide)) rfl T.m_law_gathered T.F_law_gathered.kp T.b_law_gathered .nil (fun σ => passAt (takes_of rfl rfl rfl rfl) σ) (pa_cons (pe_lc (own := [("_law_exponents_here", 13), ("_law_own", 14)]) (g := gTup K 2 (gCons (gName 13) (gCons (gName 14) gNil))) rfl sc_law_right.nd (ui_seq (uv 8 (hv := vi_law_right_8))) (blkOk_by (own := [("_law_exponents_here", 13), ("_law_own", 14)]) (N := N_law_right) (sc := defScope s_law_right) (by decide +kernel)) (fun _ _ _ _ _ => (pg_tup rfl (pgs_cons (pg_name (i := 13) sc_law_right.nd rfl (by first | exact Or.inl rfl | exact Or.inr rfl)) (pgs_cons (pg_name (i := 14) sc_law_right.nd rfl (by first | exact Or.inl rfl | exact Or.inr rfl)) pgs_nil)))) (fun _ _ _ _ _ => pts_nil) (fun _ _ _ _ _ => (pe_tup (pa_cons (uv 13) (pa_cons (pe_callD (ok_law_by T) (hr.mono (by decide)) rfl T.m_law_by T.F_law_by.kp T.b_law_by .nil (fun _ => passAt0) (pa_cons (uv 14) (pa_cons (uv 10) pa_nil))) pa_nil))))) pa_nil)))
      (pss_cons (ps_if (PW.pt (pw_or (pt_not (ut (pe_callD (ok_law_is T) (hr.mono (by decide)) rfl T.m_law_is T.F_law_is.kp T.b_law_is .nil (fun σ => passAt (takes_of rfl rfl rfl rfl) σ) (pa_cons (pe_methD (uv 6 (hv := vi_law_right_6)) T.cl_Poly T.mt_Poly_scaled (ok_Poly_scaled T) (hr.mono (by decide)) T.b_Poly_scaled .nil (fun σ => passAt (takes_of rfl rfl rfl rfl) σ) (pa_cons (uv 10 (hv := vi_law_right_10)) pa_nil)) (pa_cons (uv 1 (hv := vi_law_right_1)) (pa_cons (uv 11 (hv := vi_law_right_11)) pa_nil)))))) (pw_or1 (pt_not (ut (pe_callD (ok_law_is T) (hr.mono (by decide)) rfl T.m_law_is T.F_law_is.kp T.b_law_is .nil (fun σ => passAt (takes_of rfl rfl rfl rfl) σ) (pa_cons (uv 6 (hv := vi_law_right_6)) (pa_cons (uv 1 (hv := vi_law_right_1)) (pa_cons (uv 8 (hv := vi_law_right_8)) pa_nil))))))))) (pss_one (ps_ret pe_bl)) pss_nil)
      (pss_cons (ps_set (i := 12) sc_law_right.nd rfl lo_law_right_12 (pe_callTy uk_tup rfl T.z_tuple boot_tuple (pa_cons (pe_lc (own := [("_law_b", 15)]) (g := gName 15) rfl sc_law_right.nd (pi_range1 rfl T.z_range (pa_cons (uv 1 (hv := vi_law_right_1)) pa_nil)) (blkOk_by (own := [("_law_b", 15)]) (N := N_law_right) (sc := defScope s_law_right) (by decide +kernel)) (fun _ _ _ _ _ => (pg_name (i := 15) sc_law_right.nd rfl (by first | exact Or.inl rfl | exact Or.inr rfl))) (fun _ _ _ _ _ => pts_nil) (fun _ _ _ _ _ => (pe_callD (ok_law_number T) (hr.mono (by decide)) rfl T.m_law_number T.F_law_number.kp T.b_law_number .nil (fun _ => passAt0) (pa_cons (uv 0) pa_nil)))) pa_nil)))
      (pss_cons (ps_if (pt_not (ut (pe_callD (ok_law_alike T) (hr.mono (by decide)) rfl T.m_law_alike T.F_law_alike.kp T.b_law_alike .nil (fun σ => passAt (takes_of rfl rfl rfl rfl) σ) (pa_cons (pe_methD (uv 6 (hv := vi_law_right_6)) T.cl_Poly T.mt_Poly_worth (ok_Poly_worth T) (hr.mono (by decide)) T.b_Poly_worth .nil (fun σ => passAt (takes_of rfl rfl rfl rfl) σ) (pa_cons (uv 12 (hv := vi_law_right_12)) pa_nil)) (pa_cons (pe_callD (ok_law_value T) (hr.mono (by decide)) rfl T.m_law_value T.F_law_value.kp T.b_law_value .nil (fun σ => passAt (takes_of rfl rfl rfl rfl) σ) (pa_cons (uv 8 (hv := vi_law_right_8)) (pa_cons (uv 12 (hv := vi_law_right_12)) pa_nil))) pa_nil))))) (pss_one (ps_ret pe_bl)) pss_nil)
      (pss_one (ps_ret (pe_and (pe_callD (ok_law_equals T) (hr.mono (by decide)) rfl T.m_law_equals T.F_law_equals.kp T.b_law_equals .nil (fun σ => passAt (takes_of rfl rfl rfl rfl) σ) (pa_cons (uv 0 (hv := vi_law_right_0)) (pa_cons (uv 1 (hv := vi_law_right_1)) (pa_cons (uv 2 (hv := vi_law_right_2)) (pa_cons (uv 6 (hv := vi_law_right_6)) pa_nil))))) (pe_one (pe_cmpR op_eq (pe_callB (uk_reprW hr.units hgd) rfl T.z_repr boot_repr (pa_cons (pe_lst (pa_cons (uv 2 (hv := vi_law_right_2)) (pa_cons (uv 3 (hv := vi_law_right_3)) pa_nil))) pa_nil)) (uv 4 (hv := vi_law_right_4)) (nomark _))))))))))))))))))), ?_⟩
  have low1 := fun t ht => (dr.each t ht).2.1
  have low2 := fun t ht => (dw.each t ht).2.1
  obtain ⟨_, n01, hN1⟩ := dr.sz
  obtain ⟨_, n02, hN2⟩ := dw.sz
  obtain ⟨lw, lsz, ldp⟩ := pair_ok dr dw hn hk hk2
  have nl : ∀ {H' : Hp} {xs : List V} {ds : List Tp} {a : Addr}, Box H' p → H' a = some (.lst xs) → Reps H' (ds.map tpD) xs → a ≠ p := fun {H' xs ds a} bx ha rr => bx.neL ha (fun x hx n z => by
    obtain ⟨i, hi⟩ := List.mem_iff_getElem?.mp hx
    obtain ⟨d', hd, r⟩ := rr.get hi
    rw [List.getElem?_map] at hd
    cases c : ds[i]? with
    | none => rw [c] at hd; cases hd
    | some t' =>
      rw [c] at hd
      cases hd
      obtain ⟨a, _, _, rfl, _⟩ := tp_at r
      cases z)
  have nlp : l ≠ p := nl hb hl ru
  have nmp : m ≠ p := nl hb hm rv
  have lu : us.length = ts.length := by rw [ru.len, List.length_map]
  have lv : vs2.length = ws.length := by rw [rv.len, List.length_map]
  have l12 := dr.len
  have w12 := dw.len
  walk_at "go"
  refine ⟨by show 2 ≤ sizeLine; decide, fun a1 ha1 => ?_⟩
  obtain ⟨H1, eq1, e1, h1⟩ := nw_o (.lst [.ref l, .ref m]) ha1
  rw [eq1]
  walk_at "go"
  refine ⟨a1, pairD ts ws, rfl, Rep.pair h1 (e1 _ _ hl) (e1 _ _ hm) (ru.ex e1) (rv.ex e1), lw, lsz, ldp, ?_⟩
  walk_at "go"
  refine g_listL (e1 _ _ hl) fun F hF => ?_
  obtain ⟨H2, eq2, e2, h2⟩ := nw_o (.lst us) hF
  rw [eq2]
  have e02 := e1.trans e2
  walk_at "go"
  refine g_make ?_
  walk_at "go"
  refine fun A1 x1 f11 f12 f13 => g_polyB rfl (e02.ey.tabs hT) (.inr ⟨F, us, rfl, .inl h2, ru.ex e02⟩) dr.fit (fun t ht => by rw [(dr.each t ht).1.1]; omega) f11 f12 f13 fun H3 y23 pa3 nk3 => ?_
  have y03 := e02.ey.trans y23
  have hF3 : H3 F = some (.lst us) := y23 _ _ h2
  walk_at "go"
  refine g_makeN ?_
  walk_at "go"
  refine g_tupOf (y03 _ _ hm) fun t4 ht4 => ?_
  obtain ⟨H4, eq4, e4, h4⟩ := nw_o (.tup vs2) ht4
  rw [eq4]
  walk_at "go"
  refine ⟨rfl, rfl, fun A2 x2 f21 f22 f23 => g_polyB rfl ((y03.trans e4.ey).tabs hT) (.inr ⟨t4, vs2, rfl, .inr h4, rv.tk (y03.trans e4.ey).tk (tps_hard ws)⟩) dw.fit (fun t ht => by rw [(dw.each t ht).1.1]; omega) f21 f22 f23 fun H5 y45 pb5 nk6 => ?_⟩
  have y35 := e4.ey.trans y45
  have y05 := y03.trans y35
  have pa5 := pa3.ey y35
  have hF5 : H5 F = some (.lst us) := y35 _ _ hF3
  have nk5 := (nk3 F (by rw [h2]; simp)).ey pa3 y35
  walk_at "go"
  refine g_clear hF5 ?_
  obtain ⟨H6, eq6, b6, h6⟩ := st_atB H5 F (.lst [])
  have y06 : Ey (tabs T) H H6 := by rw [← eq6]; exact y05.at_new (e1.free hF) hF5 trivial
  have pa6 := pa5.clr (o := .lst []) nk5 hF5
  have nk5b : NotKept H5 A2 F := fun C' dx' n' l' z => nk6 F (by rw [e4 _ _ hF3]; simp) _ _ _ _ z
  have pb6 := pb5.clr (o := .lst []) nk5b hF5
  rw [eq6] at pa6 pb6 ⊢
  have hl6 := y06 _ _ hl
  have hm6 := y06 _ _ hm
  have ru6 := ru.tk y06.tk (tps_hard ts)
  have rv6 := rv.tk y06.tk (tps_hard ws)
  walk_at "go"
  refine ⟨l, us, ts, _, _, rfl, hl6, ru6, y06.tabs hT, dr.fit, fun t ht => by rw [(dr.each t ht).1.1]; omega, fun g1 gs H7 y67 ng1 hg7 rg7 => ?_⟩
  have y07 := y06.trans y67
  walk_at "go"
  refine ⟨m, vs2, ws, _, _, rfl, y67 _ _ hm6, rv6.tk y67.tk (tps_hard ws), y07.tabs hT, dw.fit, fun t ht => by rw [(dw.each t ht).1.1]; omega, fun g2 gs2 H8 y78 ng2 hg8 rg8 => ?_⟩
  have y68 := y67.trans y78
  have y08 := y07.trans y78
  have hg78 := y78 _ _ hg7
  have rg78 := rg7.tk y78.tk (tps_hard _)
  have du1 := dr.due
  have du2 := dw.due
  have il : ∀ {k' A' N' : Nat} {ds : List Tp}, DueT n k' A' N' ds → ds.length ≤ 3000 ∧ ∀ t ∈ ds, t.1.length ≤ 100 := fun d => ⟨by have := d.len; omega, fun t ht => by rw [(d.each t ht).1.1]; omega⟩
  have pa8 := pa6.ey y68
  have pb8 := pb6.ey y68
  walk_at "go"
  refine ⟨A1, g1, n, polyP ts, gs, rfl, pa8, hg78, rg78, (il du1).1, (il du1).2, fun H9 e9 => ?_⟩
  walk_at "go"
  refine ⟨A2, g2, n, polyP ws, gs2, rfl, pb8.ex e9, e9 _ _ hg8, rg8.ex e9, (il du2).1, (il du2).2, fun H10 e10 => ?_⟩
  walk_at "go"
  have e810 := e9.trans e10
  refine g_make ?_
  walk_at "go"
  refine fun A3 x3 f31 f32 f33 => g_polyA rfl ((y08.trans e810.ey).tabs hT) (.inl ⟨rfl, rfl⟩) fit0 (fun t z => by simp at z) f31 f32 f33 fun H11 y11 pn11 => ?_
  rw [polyP_nil] at pn11
  walk_at "go"
  refine ⟨by show 0 ≤ sizeLine; decide, fun n11 hn11 => ?_⟩
  obtain ⟨H12, eq12, e12, h12⟩ := nw_o (.lst []) hn11
  rw [eq12]
  have y812 := (e810.ey.trans y11).trans e12.ey
  walk_at "go"
  refine ⟨A3, n11, n, [], [], rfl, pn11.ex e12, h12, rfl, Nat.zero_le _, fun t z => by simp at z, fun H13 e13 => ?_⟩
  have y813 := y812.trans e13.ey
  have y013 := y08.trans y813
  have pa13 := pa8.ey y813
  have pb13 := pb8.ey y813
  walk_at "go"
  obtain ⟨dxa, la, va, hpa, _, _⟩ := id pa13
  refine g_self hpa flPo_plus ?_
  walk_at "go"
  refine ⟨A1, A2, n, n, polyP ts, polyP ws, _, _, rfl, pa13, pb13, y013.tabs hT, app_fit (fun t ht => (du1.each t ht).2.2) (fun t ht => (du2.each t ht).2.2) n01 n02 hN1 hN2 a30 du1.len du2.len, fun t ht => ?_, fun r1 H14 y14 nr1 pr1 => ?_⟩
  · rcases List.mem_append.mp ht with z | z
    · rw [(du1.each t z).1.1]; omega
    · rw [(du2.each t z).1.1]; omega
  rw [polyP_plus low1 low2] at pr1
  have y014 := y013.trans y14
  walk_at "go"
  refine g_catL (y014 _ _ hl) (y014 _ _ hm) (by omega) fun c15 hc15 => ?_
  obtain ⟨H15, eq15, e15, h15⟩ := nw_o (.lst (us ++ vs2)) hc15
  rw [eq15]
  have y015 := y014.trans e15.ey
  walk_at "go"
  have fitB : FitT (10 ^ 30) (denP ts * denP ws) (ts ++ ws) := app_fit dr.sz.1 dw.sz.1 n01 n02 hN1 hN2 (Nat.le_trans (Nat.le_mul_of_pos_left _ (by decide)) a30) l12 w12
  have lenB : ∀ t ∈ ts ++ ws, t.1.length = n := fun t ht => by
    rcases List.mem_append.mp ht with z | z
    · exact (dr.each t z).1.1
    · exact (dw.each t z).1.1
  refine ⟨c15, us ++ vs2, ts ++ ws, _, _, rfl, h15, by rw [List.map_append]; exact (ru.tk y015.tk (tps_hard ts)).append (rv.tk y015.tk (tps_hard ws)), y015.tabs hT, fitB, fun t ht => by rw [lenB t ht]; omega, fun g16 ws16 H16 y16 n16 h16 r16 => ?_⟩
  have y016 := y015.trans y16
  have ilk : ∀ {ds : List Tp}, ds.length ≤ 1000 → (∀ t ∈ ds, t.1.length = n) → (polyP ds).length ≤ 3000 ∧ ∀ t ∈ polyP ds, t.1.length ≤ 100 := fun {ds} z1 z2 => ⟨by have := polyP_len ds; omega, fun t ht => by
    obtain ⟨u, hu, e⟩ := polyP_key ht
    rw [← e, z2 u hu]
    omega⟩
  walk_at "go"
  have ilB := ilk (ds := ts ++ ws) (by rw [List.length_append]; omega) lenB
  refine ⟨r1, g16, n, polyP (ts ++ ws), ws16, rfl, (pr1.ex e15).ey y16, h16, r16, ilB.1, ilB.2, fun H17 e17 => ?_⟩
  have y1317 := ((y14.trans e15.ey).trans y16).trans e17.ey
  have y817 := y813.trans y1317
  have y017 := y08.trans y817
  walk_at "go"
  refine ⟨A2, g2, n, polyP ws, gs2, rfl, pb8.ey y817, y817 _ _ hg8, rg8.tk y817.tk (tps_hard _), (il du2).1, (il du2).2, fun H18 e18 => ?_⟩
  have y818 := y817.trans e18.ey
  have y018 := y08.trans y818
  have pa18 := pa8.ey y818
  walk_at "go"
  obtain ⟨dxb, lb, vb, hpb, _, _⟩ := id pa18
  refine g_self hpb flPo_by ?_
  walk_at "go"
  obtain ⟨fitM, lenM⟩ := mul_fit du1 du2 n01 n02 hN1 hN2 a30
  refine ⟨A1, A2, n, n, polyP ts, polyP ws, _, _, _, _, _, _, rfl, pa18, pb8.ey y818, y018.tabs hT, fitM, one_fit du1 n01 hN1 a30, one_fit du2 n02 hN2 a30, fun t ht u hu => by rw [(du1.each t ht).1.1, (du2.each u hu).1.1], fun t ht => by rw [lenM t ht]; omega, fun r2 H19 y19 nr2 pr2 => ?_⟩
  have y819 := y818.trans y19
  walk_at "go"
  have y019 := y08.trans y819
  refine ⟨g1, g2, gs, gs2, polyP ts, polyP ws, _, _, _, _, _, _, rfl, y819 _ _ hg78, rg78.tk y819.tk (tps_hard _), y819 _ _ hg8, rg8.tk y819.tk (tps_hard _), y019.tabs hT, fitM, one_fit du1 n01 hN1 a30, one_fit du2 n02 hN2 a30, fun t ht u hu => by rw [(du1.each t ht).1.1, (du2.each u hu).1.1], fun t ht => by rw [lenM t ht]; omega, fun g20 ws20 H20 y20 n20 h20 r20 => ?_⟩
  walk_at "go"
  have ilM := ilk (ds := mulP (polyP ts) (polyP ws)) (by have := mulP_len du1.len du2.len; omega) lenM
  refine ⟨r2, g20, n, _, ws20, rfl, pr2.ey y20, h20, r20, ilM.1, ilM.2, fun H21 e21 => ?_⟩
  have y821 := (y819.trans y20).trans e21.ey
  have y021 := y08.trans y821
  walk_at "go"
  refine ⟨A2, g2, n, polyP ws, gs2, rfl, pb8.ey y821, y821 _ _ hg8, rg8.tk y821.tk (tps_hard _), (il du2).1, (il du2).2, fun H22 e22 => ?_⟩
  have y822 := y821.trans e22.ey
  have y022 := y08.trans y822
  walk_at "go"
  refine g_make ?_
  walk_at "go"
  refine fun A4 x4 f41 f42 f43 => g_polyA rfl (y022.tabs hT) (.inl ⟨rfl, rfl⟩) fit0 (fun t z => by simp at z) f41 f42 f43 fun H23 y23' pn23 => ?_
  rw [polyP_nil] at pn23
  walk_at "go"
  refine ⟨by show 0 ≤ sizeLine; decide, fun n24 hn24 => ?_⟩
  obtain ⟨H24, eq24, e24, h24⟩ := nw_o (.lst []) hn24
  rw [eq24]
  walk_at "go"
  refine ⟨A4, n24, n, [], [], rfl, pn23.ex e24, h24, rfl, Nat.zero_le _, fun t z => by simp at z, fun H25 e25 => ?_⟩
  have y825 := ((y822.trans y23').trans e24.ey).trans e25.ey
  have y025 := y08.trans y825
  have bx25 := hb.ey y025
  walk_at "go"
  refine ⟨p, rfl, bx25, fun qn f H26 hqn fok b26 bx26 => ?_⟩
  have yb26 : By (tabs T) p H H26 := (y025.by_ p).trans (b26.byB bx25)
  have y8b26 : By (tabs T) p H8 H26 := (y825.by_ p).trans (b26.byB bx25)
  have bx8 := hb.ey y08
  have nlg1 : g1 ≠ p := nl bx8 hg78 rg78
  have nlg2 : g2 ≠ p := nl bx8 hg8 rg8
  have hg26 : H26 g1 = some (.lst gs) := y8b26.keep g1 _ nlg1 hg78 trivial
  have rg26 := rg78.tk (y8b26.tkB bx8) (tps_hard _)
  have lgs : gs.length = (polyP ts).length := by rw [rg78.len, List.length_map]
  have gl := du1.len
  walk_at "go"
  refine .inl ?_
  walk_at "go"
  refine ⟨g1, rfl, ⟨_, sqL hg26⟩, fun D hD => ?_⟩
  refine lc_mapE walk_list (fun j H2 v => ∃ t, (polyP ts)[j]? = some t ∧ Rep H2 (tpD (t.1, mulF t.2 f)) v) (by omega) hD (fun j H1 H2 v tk r => ⟨r.choose, r.choose_spec.1, r.choose_spec.2.tk tk (tp_hard _)⟩) (fun H2 e2 => sqL (e2 _ _ hg26)) ?_ ?_
  · rintro j y H2 H3 P' N' hj e2 ⟨rfl, hy⟩ kk
    obtain ⟨dd, ed, rd⟩ := rg26.get hy
    rw [List.getElem?_map] at ed
    cases ct : (polyP ts)[j]? with
    | none => rw [ct] at ed; cases ed
    | some t =>
    rw [ct] at ed
    cases ed
    obtain ⟨ya, pa', qa, rfl, h1', h2', h3'⟩ := tp_at (rd.ex e2)
    refine g_tup2 h1' ?_
    walk_at "go"
    refine ⟨rfl, ?_⟩
    walk_at "go"
    obtain ⟨z1, z2, z3⟩ := du1.bits n01 hN1 a30 t (List.mem_of_getElem? ct)
    obtain ⟨f1, f2, f3⟩ := fok.bits
    refine ⟨qa, qn, t.2, f, rfl, h3', e2 _ _ hqn, z1, f1, z2, z3, f2, f3, fun r K1 ek1 hr1 => ?_⟩
    walk_at "go"
    refine ⟨by show 2 ≤ sizeLine; decide, fun d3 hd3 => ?_⟩
    obtain ⟨K3, eqk3, ek3, hk3⟩ := nw_o (.tup [.ref pa', .ref r]) hd3
    rw [eqk3]
    exact kk _ _ (ek1.trans ek3) ⟨t, ct, Rep.tp hk3 ((ek1.trans ek3) _ _ h2') (ek3 _ _ hr1)⟩
  intro H27 acc e27 hacc hla hr2
  have ra : Reps H27 ((scaleP (polyP ts) f).map tpD) acc := by
    refine reps_at (by unfold scaleP; rw [hla, lgs, List.length_map]) fun j v hv => ?_
    obtain ⟨t, ct, rt⟩ := hr2 j v hv
    exact ⟨_, by unfold scaleP; rw [List.getElem?_map, ct]; rfl, rt⟩
  have yb27 : By (tabs T) p H H27 := yb26.trans (e27.by_ p)
  have lenS : ∀ t ∈ scaleP (polyP ts) f, t.1.length = n := fun t ht => by
    obtain ⟨u, hu, rfl⟩ := List.mem_map.mp ht
    exact (du1.each u hu).1.1
  have fitS := scale_fit du1 n01 hN1 a30 fok
  walk_at "go"
  refine ⟨D, acc, scaleP (polyP ts) f, _, _, rfl, hacc, ra, yb27.tabs hT, fitS, fun t ht => by rw [lenS t ht]; omega, fun g28 ws28 H28 y28 n28 h28 r28 => ?_⟩
  have y2628 := e27.ey.trans y28
  have yb28 : By (tabs T) p H H28 := yb26.trans (y2628.by_ p)
  have pa26 := pa8.by_ y8b26 bx8
  have pa28 := pa26.ey y2628
  walk_at "go"
  obtain ⟨dxc, lc, vc, hpc, _, _⟩ := id pa28
  refine g_self hpc flPo_scaled ?_
  walk_at "go"
  obtain ⟨f1, f2, f3⟩ := fok.bits
  refine ⟨A1, qn, f, n, polyP ts, _, _, _, _, rfl, y2628 _ _ hqn, pa28, yb28.tabs hT, fitS, one_fit du1 n01 hN1 a30, f1, f2, f3, fun t ht => by rw [(du1.each t ht).1.1]; omega, fun r3 H29 y29 nr3 pr3 => ?_⟩
  walk_at "go"
  have ilS := ilk (ds := scaleP (polyP ts) f) (by unfold scaleP; rw [List.length_map]; omega) lenS
  refine ⟨r3, g28, n, _, ws28, rfl, pr3, y29 _ _ h28, r28.tk y29.tk (tps_hard _), ilS.1, ilS.2, fun H30 e30 => ?_⟩
  have y2630 := (y2628.trans y29).trans e30.ey
  have hg30 := y2630 _ _ hg26
  have rg30 := rg26.tk y2630.tk (tps_hard _)
  have pa30 := pa26.ey y2630
  walk_at "go"
  refine ⟨A1, g1, n, polyP ts, gs, rfl, pa30, hg30, rg30, (il du1).1, (il du1).2, fun H31 e31 => ?_⟩
  have y2631 := y2630.trans e31.ey
  have yb31 : By (tabs T) p H H31 := yb26.trans (y2631.by_ p)
  have bx31 := bx26.ey y2631
  have pa31 := pa30.ex e31
  have hg31 := e31 _ _ hg30
  have rg31 := rg30.ex e31
  walk_at "go"
  refine ⟨(n : Int), rfl, by omega, by omega, fun D2 hD2 => ?_⟩
  rw [Int.toNat_natCast]
  refine lc_mapB walk_range p (fun u K1 v => ∃ f, FxOk f ∧ Rep K1 (fxD f) v) (by omega) hD2 bx31 (fun _ _ _ _ t r => ⟨r.choose, r.choose_spec.1, r.choose_spec.2.tk t (fx_hard _)⟩) (fun _ _ => trivial) ?_ ?_
  · rintro u y K1 K2 P2 N2' hu b8 hb8 ⟨rfl, rfl⟩ kk
    walk_at "go"
    refine ⟨rfl, ?_⟩
    walk_at "go"
    refine ⟨p, rfl, hb8, fun q2 f2' K3 hq2 fok2 b10 bx10 => ?_⟩
    exact kk _ _ b10 bx10 ⟨f2', fok2, Rep.fx hq2⟩
  intro H32 fv b32 bx32 hfv hlf hrf
  obtain ⟨fs, lfs, fsok, rfs⟩ := fxs_of hrf
  have yc32 : By (tabs T) p H31 H32 := b32.byB bx31
  have yb32 := yb31.trans yc32
  have pa32 := pa31.by_ yc32 bx31
  have hg32 : H32 g1 = some (.lst gs) := yc32.keep g1 _ nlg1 hg31 trivial
  have rg32 := rg31.tk (yc32.tkB bx31) (tps_hard _)
  walk_at "go"
  refine g_tupOf hfv fun tn htn => ?_
  obtain ⟨H33, eq33, e33, h33⟩ := nw_o (.tup fv) htn
  rw [eq33]
  have rnum : Rep H33 (fxsD fs) (.ref tn) := ⟨tn, fv, rfl, h33, rfs.ex e33⟩
  have wf := worth_fit du1 n01 hN1 a30 hk hn (fs := fs) (by rw [lfs, hlf]) fsok
  have pa33 := pa32.ex e33
  walk_at "go"
  obtain ⟨dxd, ld, vd, hpd, _, _⟩ := id pa33
  refine g_self hpd flPo_worth ?_
  walk_at "go"
  refine ⟨A1, tn, n, polyP ts, fs, _, _, _, _, 4, rfl, pa33, rnum, wf, by decide, fun q34 H34 e34 h34 => ?_⟩
  have e234 := e33.trans e34
  walk_at "go"
  refine ⟨g1, tn, gs, polyP ts, fs, _, _, _, _, 4, rfl, e234 _ _ hg32, rg32.ex e234, rnum.ex e34, wf, by decide, fun q35 H35 e35 h35 => ?_⟩
  walk_at "go"
  refine ⟨fxD (worthP (polyP ts) fs), _, _, rfl, Rep.fx (e35 _ _ h34), Rep.fx h35, by show 3 ≤ 400000; decide, fun H36 e36 => ?_⟩
  have e236 := (e234.trans e35).trans e36
  have yb36 : By (tabs T) p H H36 := yb32.trans (e236.by_ p)
  have bx36 := bx32.ex e236
  have hl36 : H36 l = some (.lst us) := yb36.keep l _ nlp hl trivial
  have ru36 := ru.tk (yb36.tkB hb) (tps_hard ts)
  walk_at "go"
  refine ⟨p, l, A1, us, ts, n, k, rfl, bx36, yb36.tabs hT, hl36, ru36, dr, hn, pa32.ex e236, fun H37 y37 bx37 => ?_⟩
  have yb37 := yb36.trans y37
  have hl37 : H37 l = some (.lst us) := yb37.keep l _ nlp hl trivial
  have hm37 : H37 m = some (.lst vs2) := yb37.keep m _ nmp hm trivial
  have ru37 := ru.tk (yb37.tkB hb) (tps_hard ts)
  have rv37 := rv.tk (yb37.tkB hb) (tps_hard ws)
  walk_at "go"
  refine ⟨by show 2 ≤ sizeLine; decide, fun a38 ha38 => ?_⟩
  obtain ⟨H38, eq38, e38, h38⟩ := nw_o (.lst [.ref l, .ref m]) ha38
  rw [eq38]
  walk_at "go"
  refine ⟨a38, pairD ts ws, rfl, Rep.pair h38 (e38 _ _ hl37) (e38 _ _ hm37) (ru37.ex e38) (rv37.ex e38), lw, lsz, ldp, ?_⟩
  walk_at "go"
  have fin := q H38 (yb37.trans (e38.by_ p)) (bx37.ex e38)
  first
    | exact fin
    | simpa using fin
    | skip
theorem vi_of_degree_0 : Vis (defScope s_of_degree) "boxes" := by first | exact Or.inl (by decide +kernel) | exact Or.inr (Or.inl (by decide +kernel)) | exact Or.inr (Or.inr (by decide +kernel))
theorem vi_of_degree_1 : Vis (defScope s_of_degree) "degree" := by first | exact Or.inl (by decide +kernel) | exact Or.inr (Or.inl (by decide +kernel)) | exact Or.inr (Or.inr (by decide +kernel))
theorem vi_of_degree_2 : Vis (defScope s_of_degree) "found" := by first | exact Or.inl (by decide +kernel) | exact Or.inr (Or.inl (by decide +kernel)) | exact Or.inr (Or.inr (by decide +kernel))
theorem vi_of_degree_3 : Vis (defScope s_of_degree) "first" := by first | exact Or.inl (by decide +kernel) | exact Or.inr (Or.inl (by decide +kernel)) | exact Or.inr (Or.inr (by decide +kernel))
theorem lo_of_degree_2 : Loc (defScope s_of_degree) "found" := by first | exact Or.inl (by decide +kernel) | exact Or.inr (by decide +kernel)
theorem lo_of_degree_3 : Loc (defScope s_of_degree) "first" := by first | exact Or.inl (by decide +kernel) | exact Or.inr (by decide +kernel)
theorem rec_of_degree (T : Txt K mg base) (rm : Nat) : FnOk P w K mg base (L2.CX P w) (rm + 2) T.a_of_degree T.d_of_degree ["boxes", "degree"] (spOfDeg rm) := by
  induction rm with
  | zero =>
    refine ⟨fun vs H Q E h => ?_, fun A outer s H args us vs Q E hr' hE hB hV h => ?_⟩ <;>
    · obtain ⟨_, _, _, z, _⟩ := h
      exact absurd z (Nat.not_lt_zero _)
  | succ rm ih =>
  refine T.F_of_degree.okX (k := rm + 2) sc_of_degree (fun vs H Q E h => ?_) (fun cdv A outer s H vs Q E hrR h => ?_)
  · obtain ⟨_, _, rfl, _⟩ := h
    rfl
  obtain ⟨n, d, rfl, hn, hn4, hd4, q⟩ := h
  have hr := hrR.mono (j := 1) (by omega)
  have hle : rm + 2 ≤ rm + 2 := Nat.le_refl _
  refine ⟨_, (pss_cons (ps_if (pt_cmpR op_eq (uv 0 (hv := vi_of_degree_0)) pe_int (nomark _)) (pss_one (ps_ret (pe_op op_rep (pe_lst (pa_cons (pe_tup pa_nil) pa_nil)) (pe_callTy uk_int rfl T.z_int boot_int (pa_cons (pe_cmpR op_eq (uv 1 (hv := vi_of_degree_1)) pe_int (nomark _)) pa_nil))))) pss_nil)
      (pss_cons (ps_set (i := 2) sc_of_degree.nd rfl lo_of_degree_2 (pe_lst pa_nil))
      (pss_cons (ps_for (passes_of rfl) rfl (pi_revR rfl T.z_reversed (prg_1 rfl T.z_range (pe_op uo_add (uv 1) pe_int))) (pg_name (i := 3) sc_of_degree.nd rfl lo_of_degree_3) (pss_one (ps_expr (pe_bm PySem.F.plainAttrs_list PySem.F.slot_list_extend PySem.F.type_list_extend mt_extend (uv 2 (hv := vi_of_degree_2)) (pa_cons (pe_lc (own := [("rest", 4)]) (g := gName 4) rfl sc_of_degree.nd (ui_seq (pe_callD ih (hrR.mono hle) rfl T.m_of_degree T.F_of_degree.kp T.b_of_degree .nil (fun σ => passAt (takes_of rfl rfl rfl rfl) σ) (pa_cons (pe_op uo_sub (uv 0 (hv := vi_of_degree_0)) pe_int) (pa_cons (pe_op uo_sub (uv 1 (hv := vi_of_degree_1)) (uv 3 (hv := vi_of_degree_3))) pa_nil)))) (blkOk_by (own := [("rest", 4)]) (N := N_of_degree) (sc := defScope s_of_degree) (by decide +kernel)) (fun _ _ _ _ _ => (pg_name (i := 4) sc_of_degree.nd rfl (by first | exact Or.inl rfl | exact Or.inr rfl))) (fun _ _ _ _ _ => pts_nil) (fun _ _ _ _ _ => (pe_op (show OpR _ (binaryOp .Add) (uAdd K) from uo_add) (pe_tup (pa_cons (uv 3) pa_nil)) (uv 4)))) pa_nil)))))
      (pss_one (ps_ret (uv 2 (hv := vi_of_degree_2))))))), ?_⟩
  walk_at "go"
  cases n with
  | zero =>
    refine i_d (fun c => ?_) fun c => absurd rfl c
    walk_at "go"
    refine g_new fun u hu => ?_
    have e1 : Ex H (upd H u (.tup [])) := Ex.new hu
    have h1 := @upd_same H u (.tup [])
    revert e1 h1
    generalize upd H u (.tup []) = H1
    intro e1 h1
    walk_at "go"
    refine g_new fun l hl => ?_
    have e2 : Ex H1 (upd H1 l (.lst [.ref u])) := Ex.new hl
    have h2 := @upd_same H1 l (.lst [.ref u])
    revert e2 h2
    generalize upd H1 l (.lst [.ref u]) = H2
    intro e2 h2
    walk_at "go"
    refine g_rep01 h2 fun p hp => ?_
    walk_at "go"
    have e3 : Ex H2 (upd H2 p (.lst (if decide (V.int ((d : Nat) : Int) = V.int 0) = true then [.ref u] else []))) := Ex.new hp
    refine q p _ _ ((e1.trans e2).trans e3) ((e1.trans e2).free hp) upd_same ?_
    unfold ofDeg
    by_cases c0 : d = 0
    · subst c0
      exact ⟨.ref u, [], rfl, Rep.exp (e3 _ _ (e2 _ _ h1)), rfl⟩
    · rw [if_neg c0, if_neg (by
        rw [decide_eq_true_eq]
        intro z
        injection z with z
        omega)]
      rfl
  | succ n =>
    refine i_d (fun c => by injection c with c; omega) fun c => ?_
    walk_at "go"
    refine g_new fun F hF => ?_
    have e1 : Ex H (upd H F (.lst [])) := Ex.new hF
    have hF1 := @upd_same H F (.lst [])
    revert e1 hF1
    generalize upd H F (.lst []) = H1
    intro e1 hF1
    walk_at "go"
    refine g_revR1 ?_
    walk_at "go"
    refine ⟨by decide, by decide, by omega, by omega, ?_⟩
    have l1 : ofDeg (n + 1) d = ((List.range (d + 1)).reverse.map fun (f : Nat) => (ofDeg n (d - f)).map ((f : Int) :: ·)).flatten := by rw [ofDeg]
    have l2 := ofDeg_len (n + 1) hn4 d hd4
    rw [l1] at l2
    have l3 : ((d : Int) + 1 - 0).toNat = d + 1 := by omega
    refine for_itC walk_rangeC (fun i σ H4 => (∃ o3 o4, σ = [some (.int ((n + 1 : Nat) : Int)), some (.int ((d : Nat) : Int)), some (.ref F), o3, o4]) ∧ Ex H H4 ∧ ∃ acc, H4 F = some (.lst acc) ∧ Reps H4 ((((List.range (d + 1)).reverse.take i).map fun (f : Nat) => (ofDeg n (d - f)).map ((f : Int) :: ·)).flatten.map expD) acc) ⟨⟨_, _, rfl⟩, e1, [], hF1, rfl⟩ (fun _ _ _ _ _ => trivial) ?_ ?_
    · rintro RT BK i y σ H4 H4' hi ⟨⟨o3, o4, rfl⟩, e4, acc, ha, ra⟩ ⟨rfl, hyx⟩
      obtain rfl : y = V.int ((d - i : Nat) : Int) := by
        rw [hyx]
        exact congrArg V.int (by omega)
      have er : (List.range (d + 1)).reverse[i]? = some (d - i) := by
        rw [List.getElem?_reverse (by rw [List.length_range]; omega), List.length_range, List.getElem?_range (by omega)]
        congr 1
      walk_at "go"
      refine .inl ?_
      walk_at "go"
      refine ⟨n, i, two_ints (by omega) (by omega), by omega, by omega, by omega, fun qq ws H5 e5 hq5 hw rw5 => ?_⟩
      walk_at "go"
      refine ⟨qq, rfl, ⟨_, sqL hw⟩, fun D hD => ?_⟩
      have lw : ws.length = (ofDeg n i).length := by rw [rw5.len, List.length_map]
      have l4 := ofDeg_len n (by omega) i (by omega)
      refine lc_mapE walk_list (fun j H6 v => ∃ e, ((ofDeg n i).map (((d - i : Nat) : Int) :: ·))[j]? = some e ∧ Rep H6 (expD e) v) (by omega) hD (fun _ _ _ _ tk ⟨t, a, b⟩ => ⟨t, a, b.tk tk (exp_hard t)⟩) (fun H6 e6 => sqL (e6 _ _ hw)) ?_ ?_
      · rintro j y H6 H7 P N hj e6 ⟨rfl, hy⟩ k
        obtain ⟨dd, ed, rd⟩ := rw5.get hy
        rw [List.getElem?_map] at ed
        cases ce : (ofDeg n i)[j]? with
        | none => rw [ce] at ed; cases ed
        | some e0 =>
        rw [ce] at ed
        cases ed
        obtain ⟨pe, rfl, hpe⟩ := exp_at (rd.ex e6)
        walk_at "go"
        refine ⟨rfl, ?_⟩
        walk_at "go"
        refine g_new fun m hm => ?_
        have e7 : Ex H7 (upd H7 m (.tup [.int ((d - i : Nat) : Int)])) := Ex.new hm
        have h7 := @upd_same H7 m (.tup [.int ((d - i : Nat) : Int)])
        have le0 : (e0.map V.int).length ≤ 100 := by
          rw [List.length_map]
          exact ofDeg_el n (by omega) i (by omega) e0 (List.mem_of_getElem? ce)
        refine g_catT h7 (e7 _ _ hpe) (by show 1 + _ ≤ _; omega) fun pp H8 e8 h8 => ?_
        exact k _ _ (e7.trans e8) ⟨((d - i : Nat) : Int) :: e0, by rw [List.getElem?_map, ce]; rfl, Rep.exp h8⟩
      intro H6 ac e6 hac hla hr2
      have rac : Reps H6 (((ofDeg n i).map (((d - i : Nat) : Int) :: ·)).map expD) ac := reps_at (by rw [hla, lw, List.length_map]) hr2
      have lac : ac.length = (ofDeg n i).length := by rw [rac.len, List.length_map, List.length_map]
      have x6 := e5.trans e6
      have ha6 := x6 _ _ ha
      have lacc : acc.length ≤ 100 := by
        rw [ra.len, List.length_map]
        exact Nat.le_trans (flat_take_le _ _ i) l2
      walk_at "go"
      refine g_ext ha6 hac (by omega) ?_
      have t10 : Tk H6 (upd H6 F (.lst (acc ++ ac))) := (But.refl F H6).upd.tkl ha6
      walk_at "go"
      refine ⟨⟨_, _, rfl⟩, (e4.trans x6).at_new hF, _, upd_same, ?_⟩
      rw [flat_take _ er, List.map_append, show d - (d - i) = i from by omega]
      exact ((ra.ex x6).tk t10 (exps_hard _)).append (rac.tk t10 (exps_hard _))
    · rintro σ H4 ⟨⟨o3, o4, rfl⟩, e4, acc, ha, ra⟩
      walk_at "go"
      refine q F acc H4 e4 hF ha ?_
      rw [l3, List.take_of_length_le (by rw [List.length_reverse, List.length_range]; omega), ← l1] at ra
      exact ra
theorem ok_of_degree (T : Txt K mg base) : FnOk P w K mg base (L2.CX P w) 31 T.a_of_degree T.d_of_degree ["boxes", "degree"] (spOfDeg 6) := by
  exact (rec_of_degree T 6).mono (by decide)
theorem vi_exponents_to_0 : Vis (defScope s_exponents_to) "boxes" := by first | exact Or.inl (by decide +kernel) | exact Or.inr (Or.inl (by decide +kernel)) | exact Or.inr (Or.inr (by decide +kernel))
theorem vi_exponents_to_1 : Vis (defScope s_exponents_to) "degree" := by first | exact Or.inl (by decide +kernel) | exact Or.inr (Or.inl (by decide +kernel)) | exact Or.inr (Or.inr (by decide +kernel))
theorem vi_exponents_to_2 : Vis (defScope s_exponents_to) "found" := by first | exact Or.inl (by decide +kernel) | exact Or.inr (Or.inl (by decide +kernel)) | exact Or.inr (Or.inr (by decide +kernel))
theorem vi_exponents_to_3 : Vis (defScope s_exponents_to) "one" := by first | exact Or.inl (by decide +kernel) | exact Or.inr (Or.inl (by decide +kernel)) | exact Or.inr (Or.inr (by decide +kernel))
theorem lo_exponents_to_2 : Loc (defScope s_exponents_to) "found" := by first | exact Or.inl (by decide +kernel) | exact Or.inr (by decide +kernel)
theorem lo_exponents_to_3 : Loc (defScope s_exponents_to) "one" := by first | exact Or.inl (by decide +kernel) | exact Or.inr (by decide +kernel)
theorem ok_exponents_to (T : Txt K mg base) : FnOk P w K mg base (L2.CX P w) 32 T.a_exponents_to T.d_exponents_to ["boxes", "degree"] spExps := by
  refine T.F_exponents_to.okX sc_exponents_to (fun vs H Q E h => ?_) (fun cdv A outer s H vs Q E hr h => ?_)
  · obtain ⟨_, _, rfl, _⟩ := h
    rfl
  obtain ⟨n, d, rfl, hn4, hd4, q⟩ := h
  refine ⟨_, (pss_cons (ps_set (i := 2) sc_exponents_to.nd rfl lo_exponents_to_2 (pe_lst pa_nil))
      (pss_cons (ps_for (passes_of rfl) rfl (pi_range1 rfl T.z_range (pa_cons (pe_op uo_add (uv 1 (hv := vi_exponents_to_1)) pe_int) pa_nil)) (pg_name (i := 3) sc_exponents_to.nd rfl lo_exponents_to_3) (pss_one (ps_expr (pe_bm PySem.F.plainAttrs_list PySem.F.slot_list_extend PySem.F.type_list_extend mt_extend (uv 2 (hv := vi_exponents_to_2)) (pa_cons (pe_callD (ok_of_degree T) (hr.mono (by decide)) rfl T.m_of_degree T.F_of_degree.kp T.b_of_degree .nil (fun σ => passAt (takes_of rfl rfl rfl rfl) σ) (pa_cons (uv 0 (hv := vi_exponents_to_0)) (pa_cons (uv 3 (hv := vi_exponents_to_3)) pa_nil))) pa_nil)))))
      (pss_one (ps_ret (uv 2 (hv := vi_exponents_to_2)))))), ?_⟩
  have l2 := expsTo_len n hn4 d hd4
  have l1 : expsTo n d = ((List.range (d + 1)).map fun i => ofDeg n i).flatten := rfl
  rw [l1] at l2
  walk_at "go"
  refine g_new fun F hF => ?_
  have e1 : Ex H (upd H F (.lst [])) := Ex.new hF
  have hF1 := @upd_same H F (.lst [])
  revert e1 hF1
  generalize upd H F (.lst []) = H1
  intro e1 hF1
  walk_at "go"
  refine ⟨_, rfl, by omega, by omega, ?_⟩
  refine for_itC walk_range (fun i σ H4 => (∃ o3, σ = [some (.int ((n : Nat) : Int)), some (.int ((d : Nat) : Int)), some (.ref F), o3]) ∧ Ex H H4 ∧ ∃ acc, H4 F = some (.lst acc) ∧ Reps H4 ((((List.range (d + 1)).take i).map fun i => ofDeg n i).flatten.map expD) acc) ⟨⟨_, rfl⟩, e1, [], hF1, rfl⟩ (fun _ _ _ _ _ => trivial) ?_ ?_
  · rintro RT BK i y σ H4 H4' hi ⟨⟨o3, rfl⟩, e4, acc, ha, ra⟩ ⟨rfl, rfl⟩
    have er : (List.range (d + 1))[i]? = some i := List.getElem?_range (by omega)
    walk_at "go"
    refine ⟨n, i, two_ints rfl (by omega), by omega, hn4, by omega, fun qq ws H5 e5 hq5 hw rw5 => ?_⟩
    have lw : ws.length = (ofDeg n i).length := by rw [rw5.len, List.length_map]
    have l4 := ofDeg_len n (by omega) i (by omega)
    have ha5 := e5 _ _ ha
    have lacc : acc.length ≤ 100 := by
      rw [ra.len, List.length_map]
      exact Nat.le_trans (flat_take_le _ _ i) l2
    walk_at "go"
    refine g_ext ha5 hw (by omega) ?_
    have t10 : Tk H5 (upd H5 F (.lst (acc ++ ws))) := (But.refl F H5).upd.tkl ha5
    walk_at "go"
    refine ⟨⟨_, rfl⟩, (e4.trans e5).at_new hF, _, upd_same, ?_⟩
    rw [flat_take _ er, List.map_append]
    exact ((ra.ex e5).tk t10 (exps_hard _)).append (rw5.tk t10 (exps_hard _))
  · rintro σ H4 ⟨⟨o3, rfl⟩, e4, acc, ha, ra⟩
    walk_at "go"
    refine q F acc H4 e4 hF ha ?_
    rw [List.take_of_length_le (by rw [List.length_range]; omega), ← l1] at ra
    exact ra
theorem vi_law_0 : Vis (defScope s_law) "_law_script" := by first | exact Or.inl (by decide +kernel) | exact Or.inr (Or.inl (by decide +kernel)) | exact Or.inr (Or.inr (by decide +kernel))
theorem vi_law_1 : Vis (defScope s_law) "_law_k" := by first | exact Or.inl (by decide +kernel) | exact Or.inr (Or.inl (by decide +kernel)) | exact Or.inr (Or.inr (by decide +kernel))
theorem vi_law_2 : Vis (defScope s_law) "_law_box_here" := by first | exact Or.inl (by decide +kernel) | exact Or.inr (Or.inl (by decide +kernel)) | exact Or.inr (Or.inr (by decide +kernel))
theorem vi_law_3 : Vis (defScope s_law) "_law_boxes" := by first | exact Or.inl (by decide +kernel) | exact Or.inr (Or.inl (by decide +kernel)) | exact Or.inr (Or.inr (by decide +kernel))
theorem vi_law_4 : Vis (defScope s_law) "_law_degree" := by first | exact Or.inl (by decide +kernel) | exact Or.inr (Or.inl (by decide +kernel)) | exact Or.inr (Or.inr (by decide +kernel))
theorem vi_law_5 : Vis (defScope s_law) "_law_one" := by first | exact Or.inl (by decide +kernel) | exact Or.inr (Or.inl (by decide +kernel)) | exact Or.inr (Or.inr (by decide +kernel))
theorem vi_law_6 : Vis (defScope s_law) "_law_other" := by first | exact Or.inl (by decide +kernel) | exact Or.inr (Or.inl (by decide +kernel)) | exact Or.inr (Or.inr (by decide +kernel))
theorem lo_law_1 : Loc (defScope s_law) "_law_k" := by first | exact Or.inl (by decide +kernel) | exact Or.inr (by decide +kernel)
theorem lo_law_2 : Loc (defScope s_law) "_law_box_here" := by first | exact Or.inl (by decide +kernel) | exact Or.inr (by decide +kernel)
theorem lo_law_5 : Loc (defScope s_law) "_law_one" := by first | exact Or.inl (by decide +kernel) | exact Or.inr (by decide +kernel)
theorem ok_law (T : Txt K mg base) : FnG P w K mg base (L2.CX P w) 33 T.a_law T.d_law ["_law_script"] (spLawT (tabs T) K) := by
  refine fun_okG T.F_law sc_law (fun vs H Q E h => ?_) (fun cdv A outer s H vs Q E hr hgd h => ?_)
  · obtain ⟨_, _, rfl, _⟩ := h
    rfl
  obtain ⟨scr, ns, rfl, hT, hS, hl, q⟩ := h
  refine ⟨_, (pss_cons (ps_for (passes_of rfl) rfl (pi_range1 rfl T.z_range (pa_cons (pe_callB (uk_max2 rfl) rfl T.z_max boot_max (pa_cons pe_int (pa_cons (pe_callB (uk_min2 rfl) rfl T.z_min boot_min (pa_cons pe_int (pa_cons (pe_callB uk_len rfl T.z_len boot_len (pa_cons (uv 0 (hv := vi_law_0)) pa_nil)) pa_nil))) pa_nil))) pa_nil)) (pg_name (i := 1) sc_law.nd rfl lo_law_1) (pss_cons (ps_set (i := 2) sc_law.nd rfl lo_law_2 (pe_callD (ok_law_box T) (hr.mono (by decide)) rfl T.m_law_box T.F_law_box.kp T.b_law_box .nil (fun σ => passAt (takes_of rfl rfl rfl rfl) σ) (pa_cons (uv 0 (hv := vi_law_0)) (pa_cons (uv 1 (hv := vi_law_1)) pa_nil))))
      (pss_cons (ps_par (i := 3) (j := 4) rfl sc_law.nd rfl rfl (by decide) rfl rfl (pa_cons (pe_callD (ok_law_take T) (hr.mono (by decide)) rfl T.m_law_take T.F_law_take.kp T.b_law_take .nil (fun σ => passAt (takes_of rfl rfl rfl rfl) σ) (pa_cons (uv 2 (hv := vi_law_2)) (pa_cons pe_int pa_nil))) (pa_cons (pe_op uo_add pe_int (pe_callD (ok_law_take T) (hr.mono (by decide)) rfl T.m_law_take T.F_law_take.kp T.b_law_take .nil (fun σ => passAt (takes_of rfl rfl rfl rfl) σ) (pa_cons (uv 2 (hv := vi_law_2)) (pa_cons pe_int pa_nil)))) pa_nil)) rfl)
      (pss_cons (ps_if (pt_not (ut (pe_callD (ok_law_alike T) (hr.mono (by decide)) rfl T.m_law_alike T.F_law_alike.kp T.b_law_alike .nil (fun σ => passAt (takes_of rfl rfl rfl rfl) σ) (pa_cons (pe_callD (ok_exponents_to T) (hr.mono (by decide)) rfl T.m_exponents_to T.F_exponents_to.kp T.b_exponents_to .nil (fun σ => passAt (takes_of rfl rfl rfl rfl) σ) (pa_cons (uv 3 (hv := vi_law_3)) (pa_cons (uv 4 (hv := vi_law_4)) pa_nil))) (pa_cons (pe_callD (ok_law_exponents T) (hr.mono (by decide)) rfl T.m_law_exponents T.F_law_exponents.kp T.b_law_exponents .nil (fun σ => passAt (takes_of rfl rfl rfl rfl) σ) (pa_cons (uv 3 (hv := vi_law_3)) (pa_cons (uv 4 (hv := vi_law_4)) pa_nil))) pa_nil))))) (pss_one (ps_ret pe_bl)) pss_nil)
      (pss_cons (ps_par (i := 5) (j := 6) rfl sc_law.nd rfl rfl (by decide) rfl rfl (pa_cons (pe_callD (ok_law_poly T) (hr.mono (by decide)) rfl T.m_law_poly T.F_law_poly.kp T.b_law_poly .nil (fun σ => passAt (takes_of rfl rfl rfl rfl) σ) (pa_cons (uv 2 (hv := vi_law_2)) (pa_cons (uv 3 (hv := vi_law_3)) (pa_cons (uv 4 (hv := vi_law_4)) pa_nil)))) (pa_cons (pe_callD (ok_law_poly T) (hr.mono (by decide)) rfl T.m_law_poly T.F_law_poly.kp T.b_law_poly .nil (fun σ => passAt (takes_of rfl rfl rfl rfl) σ) (pa_cons (uv 2 (hv := vi_law_2)) (pa_cons (uv 3 (hv := vi_law_3)) (pa_cons pe_int pa_nil)))) pa_nil)) rfl)
      (C8.pss_cut (ps_if (pt_cmpR op_eq (pe_callD (ok_law_take T) (hr.mono (by decide)) rfl T.m_law_take T.F_law_take.kp T.b_law_take .nil (fun σ => passAt (takes_of rfl rfl rfl rfl) σ) (pa_cons (uv 2 (hv := vi_law_2)) (pa_cons pe_int pa_nil))) pe_int (nomark _)) (pss_one (ps_set (i := 5) sc_law.nd rfl lo_law_5 (pe_callD (ok_law_long T) (hr.mono (by decide)) rfl T.m_law_long T.F_law_long.kp T.b_law_long .nil (fun σ => passAt (takes_of rfl rfl rfl rfl) σ) (pa_cons (uv 2 (hv := vi_law_2)) (pa_cons (pe_callD (ok_law_exponents T) (hr.mono (by decide)) rfl T.m_law_exponents T.F_law_exponents.kp T.b_law_exponents .nil (fun σ => passAt (takes_of rfl rfl rfl rfl) σ) (pa_cons (uv 3 (hv := vi_law_3)) (pa_cons (uv 4 (hv := vi_law_4)) pa_nil))) pa_nil))))) pss_nil)
      (pss_cons (ps_if (PW.pt (pw_or (pt_cmpR op_notBl (pe_cmpR (op_eqM (ok_Poly_eq T) T.oth_Poly T.mt_Poly_eq (hr.mono (by decide)) T.b_Poly_eq (fun _ => passAt0)) (pe_makeD T.mk_Poly (ok_Poly_init T) (hr.mono (by decide)) rfl T.m_Poly T.bv_Poly_init1.choose_spec.2 T.bv_Poly_init1.choose_spec.1 (fun σ => passAt (takes_of rfl rfl rfl rfl) σ) (pa_cons (uv 3 (hv := vi_law_3)) pa_nil)) (pe_makeD T.mk_Poly (ok_Poly_init T) (hr.mono (by decide)) rfl T.m_Poly T.bv_Poly_init1.choose_spec.2 T.bv_Poly_init1.choose_spec.1 (fun σ => passAt (takes_of rfl rfl rfl rfl) σ) (pa_cons (pe_op uo_mod (pe_op uo_add (uv 3 (hv := vi_law_3)) pe_int) pe_int) pa_nil)) (nomark _)) pe_bl (nomark _)) (pw_or1 (pt_cmpR op_notBl (pe_cmpR (op_eqM (ok_Poly_eq T) T.oth_Poly T.mt_Poly_eq (hr.mono (by decide)) T.b_Poly_eq (fun _ => passAt0)) (pe_makeD T.mk_Poly (ok_Poly_init T) (hr.mono (by decide)) rfl T.m_Poly T.bv_Poly_init1.choose_spec.2 T.bv_Poly_init1.choose_spec.1 (fun σ => passAt (takes_of rfl rfl rfl rfl) σ) (pa_cons (uv 3 (hv := vi_law_3)) pa_nil)) (pe_makeD T.mk_Poly (ok_Poly_init T) (hr.mono (by decide)) rfl T.m_Poly T.b_Poly_init .nil (fun σ => passAt (takes_of rfl rfl rfl rfl) σ) (pa_cons (uv 3 (hv := vi_law_3)) (pa_cons (pe_tup pa_nil) pa_nil))) (nomark _)) pe_bl (nomark _))))) (pss_one (ps_ret pe_bl)) pss_nil)
      (pss_cons (ps_if (PW.pt (pw_or (pt_not (ut (pe_callG (ok_law_right T) (hr.mono (by decide)) hgd rfl T.m_law_right T.F_law_right.kp T.b_law_right .nil (fun σ => passAt (takes_of rfl rfl rfl rfl) σ) (pa_cons (uv 2 (hv := vi_law_2)) (pa_cons (uv 3 (hv := vi_law_3)) (pa_cons (uv 5 (hv := vi_law_5)) (pa_cons (uv 6 (hv := vi_law_6)) pa_nil))))))) (pw_or1 (pt_not (ut (pe_callG (ok_law_right T) (hr.mono (by decide)) hgd rfl T.m_law_right T.F_law_right.kp T.b_law_right .nil (fun σ => passAt (takes_of rfl rfl rfl rfl) σ) (pa_cons (uv 2 (hv := vi_law_2)) (pa_cons (uv 3 (hv := vi_law_3)) (pa_cons (uv 6 (hv := vi_law_6)) (pa_cons (uv 5 (hv := vi_law_5)) pa_nil)))))))))) (pss_one (ps_ret pe_bl)) pss_nil)
      (pss_one (ps_if (pt_not (ut (pe_callG (ok_law_right T) (hr.mono (by decide)) hgd rfl T.m_law_right T.F_law_right.kp T.b_law_right .nil (fun σ => passAt (takes_of rfl rfl rfl rfl) σ) (pa_cons (uv 2 (hv := vi_law_2)) (pa_cons (uv 3 (hv := vi_law_3)) (pa_cons (uv 5 (hv := vi_law_5)) (pa_cons (uv 5 (hv := vi_law_5)) pa_nil))))))) (pss_one (ps_ret pe_bl)) pss_nil))))))))))
      (pss_one (ps_ret pe_bl))), ?_⟩
  walk_at "go"
  have hln : (ns.map V.int).length ≤ 63 := by rw [List.length_map]; exact hl
  have hn : ∃ n : Nat, max 2 (min 5 (((ns.map V.int).length : Nat) : Int)) = (n : Int) ∧ 2 ≤ n ∧ n ≤ 5 := ⟨(max 2 (min 5 (((ns.map V.int).length : Nat) : Int))).toNat, by omega, by omega, by omega⟩
  obtain ⟨nn, en, n2, n6⟩ := hn
  rw [en]
  refine ⟨_, rfl, by omega, by omega, ?_⟩
  rw [Int.toNat_natCast]
  refine for_it walk_range (fun i σ H1 => (∃ o1 o2 o3 o4 o5 o6, σ = [some (.ref scr), o1, o2, o3, o4, o5, o6]) ∧ Ey (tabs T) H H1) ⟨⟨_, _, _, _, _, _, rfl⟩, Ey.refl _⟩ (fun _ _ _ _ _ => trivial) ?_ ?_
  · rintro i x σ H1 H1' hi ⟨⟨o1, o2, o3, o4, o5, o6, rfl⟩, y1⟩ ⟨rfl, rfl⟩
    walk_at "go"
    refine ⟨scr, ns, i, by show [V.ref scr, V.int (0 + (i : Int))] ++ [] = _; rw [Int.zero_add]; rfl, y1.seqL hS, hl, fun p H2 hp e2 hb2 => ?_⟩
    have yo2 := y1.trans e2.ey
    walk_at "go"
    refine ⟨p, 5, rfl, hb2, by decide, by decide, fun n0' H3 n00 n01 b3 hb3 => ?_⟩
    obtain ⟨n, rfl⟩ : ∃ m : Nat, n0' = (m : Int) := ⟨n0'.toNat, by omega⟩
    have hn : n ≤ 4 := by omega
    walk_at "go"
    refine ⟨p, 4, rfl, hb3, by decide, by decide, fun d H4 d0 d1 b4 hb4 => ?_⟩
    obtain ⟨k, hk⟩ : ∃ m : Nat, 1 + d = (m : Int) := ⟨(1 + d).toNat, by omega⟩
    have hk4 : k ≤ 4 := by omega
    have hk1 : 1 ≤ k := by omega
    have y24 : By (tabs T) p H2 H4 := (b3.byB hb2).trans (b4.byB hb3)
    walk_at "go"
    rw [hk]
    walk_at "go"
    have hT2 := yo2.tabs hT
    refine ⟨n, k, rfl, hn, hk4, fun q5 ws5 H5 e5 n5 h5 r5 => ?_⟩
    walk_at "go"
    refine ⟨n, k, rfl, hn, hk4, (y24.trans (e5.by_ p)).tabs hT2, fun q6 ws6 H6 y6 n6' h6 r6 => ?_⟩
    walk_at "go"
    refine ⟨.lst ((expsTo n k).map expD), _, _, rfl, Rep.lstE (y6 _ _ h5) (r5.tk y6.tk (exps_hard _)), Rep.lstE h6 r6, exps_size hn hk4, fun H7 e7 => ?_⟩
    have y47 := (e5.ey.trans y6).trans e7.ey
    have y27 : By (tabs T) p H2 H7 := y24.trans (y47.by_ p)
    have hb7 := hb4.ey y47
    walk_at "go"
    refine ⟨p, n, k, rfl, hb7, hn, hk4, y27.tabs hT2, fun l us ts H8 dr nl0 nlp hl8 ru8 by8 hb8 => ?_⟩
    have y28 := y27.trans by8
    walk_at "go"
    refine ⟨p, n, 2, rfl, hb8, hn, by decide, y28.tabs hT2, fun m vs2 ws H9 dw nm0 nmp hm9 rv9 by9 hb9 => ?_⟩
    have y29 := y28.trans by9
    have hl9 : H9 l = some (.lst us) := by9.keep l _ nlp hl8 trivial
    have ru9 := ru8.tk (by9.tkB hb8) (tps_hard ts)
    walk_at "go"
    refine ⟨fun σ H12 => ∃ (l' : Addr) (us' : List V) (ts' : List Tp), σ = [some (.ref scr), some (.int (0 + (i : Int))), some (.ref p), some (.int n), some (.int k), some (.ref l'), some (.ref m)] ∧ By (tabs T) p H2 H12 ∧ Box H12 p ∧ l' ≠ p ∧ H12 l' = some (.lst us') ∧ Reps H12 (ts'.map tpD) us' ∧ DrT n k ts' ∧ H12 m = some (.lst vs2) ∧ Reps H12 (ws.map tpD) vs2, ?_, ?_⟩
    · walk_at "go"
      refine ⟨p, 8, rfl, hb9, by decide, by decide, fun z H10 z0 z1 b10 hb10 => ?_⟩
      have y910 : By (tabs T) p H9 H10 := b10.byB hb9
      have y210 := y29.trans y910
      have hm10 : H10 m = some (.lst vs2) := y910.keep m _ nmp hm9 trivial
      have rv10 := rv9.tk (y910.tkB hb9) (tps_hard ws)
      walk_at "go"
      refine i_d (fun c => ?_) fun c => ?_
      · walk_at "go"
        refine ⟨n, k, rfl, hn, hk4, y210.tabs hT2, fun q11 ws11 H11 y11 n11 h11 r11 => ?_⟩
        have y211 := y210.trans (y11.by_ p)
        have hb11 := hb10.ey y11
        walk_at "go"
        refine ⟨p, q11, n, k, expsTo n k, ws11, rfl, hb11, h11, r11, expsTo_pos n hn k hk4, by have := expsTo_len n hn k hk4; omega, fun e he => expsTo_el n hn k hk4 e he, fun l2 us2 ts2 H12 dr2 nl2 nl2p hl2 ru2 b12 hb12 => ?_⟩
        have y1112 : By (tabs T) p H11 H12 := b12.byB hb11
        walk_at "go"
        exact ⟨l2, us2, ts2, rfl, y211.trans y1112, hb12, nl2p, hl2, ru2, dr2, y1112.keep m _ nmp (y11 _ _ hm10) trivial, (rv10.tk y11.tk (tps_hard ws)).tk (y1112.tkB hb11) (tps_hard ws)⟩
      · walk_at "go"
        exact ⟨l, us, ts, rfl, y210, hb10, nlp, y910.keep l _ nlp hl9 trivial, ru9.tk (y910.tkB hb9) (tps_hard ts), dr, hm10, rv10⟩
    clear dr nl0 nlp hl8 ru8 hl9 ru9
    rintro σ H12 ⟨l, us, ts, rfl, y212, hb12, nlp, hl12, ru12, dr, hm12, rv12⟩
    have hT12 := y212.tabs hT2
    walk_at "go"
    refine g_make ?_
    walk_at "go"
    refine fun P1 z1 f1 f2 f3 => g_polyA rfl hT12 (.inl ⟨rfl, rfl⟩) fit0 (fun t z => by simp at z) f1 f2 f3 fun H13 y13 pp13 => ?_
    rw [polyP_nil] at pp13
    walk_at "go"
    refine g_make ?_
    walk_at "go"
    refine fun P2 z2 f1 f2 f3 => g_polyA rfl (y13.tabs hT12) (.inl ⟨rfl, rfl⟩) fit0 (fun t z => by simp at z) f1 f2 f3 fun H14 y14 pq14 => ?_
    rw [polyP_nil] at pq14
    walk_at "go"
    have n5 : ¬ ((n : Int) = ((n : Int) + 1).fmod 5) := by
      have z : n = 0 ∨ n = 1 ∨ n = 2 ∨ n = 3 ∨ n = 4 := by omega
      rcases z with rfl | rfl | rfl | rfl | rfl <;> decide
    refine g_eqPP (pp13.ey y14) pq14 fun H15 e15 => ?_
    rw [decide_eq_false (fun z : (n : Int) = ((n : Int) + 1).fmod 5 ∧ ([] : List Tp) = [] => n5 z.1)]
    have y1215 := (y13.trans y14).trans e15.ey
    walk_at "go"
    refine g_notBl ?_
    walk_at "go"
    refine (if_neg (by decide)).mpr ?_
    walk_at "go"
    refine g_make ?_
    walk_at "go"
    refine fun P3 z3 f1 f2 f3 => g_polyA rfl (y1215.tabs hT12) (.inl ⟨rfl, rfl⟩) fit0 (fun t z => by simp at z) f1 f2 f3 fun H16 y16 pp16 => ?_
    rw [polyP_nil] at pp16
    walk_at "go"
    refine g_make ?_
    walk_at "go"
    refine ⟨by show 0 ≤ sizeLine; decide, fun u17 hu17 => ?_⟩
    obtain ⟨H17, eq17, e17, h17⟩ := nw_o (.tup []) hu17
    rw [eq17]
    have y1217 := (y1215.trans y16).trans e17.ey
    walk_at "go"
    refine fun P4 z4 f1 f2 f3 => g_polyA rfl (y1217.tabs hT12) (.inr ⟨u17, [], rfl, .inr h17, (show Reps H17 (([] : List Tp).map tpD) [] from rfl)⟩) fit0 (fun t z => by simp at z) f1 f2 f3 fun H18 y18 pq18 => ?_
    rw [polyP_nil] at pq18
    walk_at "go"
    refine g_eqPP ((pp16.ex e17).ey y18) pq18 fun H19 e19 => ?_
    rw [decide_eq_true (⟨rfl, rfl⟩ : (n : Int) = n ∧ ([] : List Tp) = [])]
    have y1219 := (y1217.trans y18).trans e19.ey
    walk_at "go"
    refine g_notBl ?_
    walk_at "go"
    refine (if_neg (by decide)).mpr ?_
    have hb19 := hb12.ey y1219
    have y219 : By (tabs T) p H2 H19 := y212.trans (y1219.by_ p)
    walk_at "go"
    refine ⟨p, l, m, us, vs2, ts, ws, n, k, 2, rfl, hb19, y219.tabs hT2, y1219 _ _ hl12, ru12.tk y1219.tk (tps_hard ts), y1219 _ _ hm12, rv12.tk y1219.tk (tps_hard ws), dr, dw, hn, hk4, by decide, fun H20 y20 hb20 => ?_⟩
    have hl20 : H20 l = some (.lst us) := y20.keep l _ nlp (y1219 _ _ hl12) trivial
    have hm20 : H20 m = some (.lst vs2) := y20.keep m _ nmp (y1219 _ _ hm12) trivial
    have ru20 := (ru12.tk y1219.tk (tps_hard ts)).tk (y20.tkB hb19) (tps_hard ts)
    have rv20 := (rv12.tk y1219.tk (tps_hard ws)).tk (y20.tkB hb19) (tps_hard ws)
    have y220 := y219.trans y20
    walk_at "go"
    refine ⟨p, m, l, vs2, us, ws, ts, n, 2, k, rfl, hb20, y220.tabs hT2, hm20, rv20, hl20, ru20, dw, dr, hn, by decide, hk4, fun H21 y21 hb21 => ?_⟩
    have hl21 : H21 l = some (.lst us) := y21.keep l _ nlp hl20 trivial
    have ru21 := ru20.tk (y21.tkB hb20) (tps_hard ts)
    have y221 := y220.trans y21
    walk_at "go"
    refine ⟨p, l, l, us, us, ts, ts, n, k, k, rfl, hb21, y221.tabs hT2, hl21, ru21, hl21, ru21, dr, dr, hn, hk4, hk4, fun H22 y22 hb22 => ?_⟩
    walk_at "go"
    exact ⟨⟨_, _, _, _, _, _, rfl⟩, yo2.of_by (y221.trans y22) (y1.free hp)⟩
  · rintro σ H1 ⟨⟨o1, o2, o3, o4, o5, o6, rfl⟩, y1⟩
    walk_at "go"
    exact q _
end
theorem mk_txt {K : PySem.W.Frag} {h : Heap} {mg : Str → Option Value} (X : K.In h) (G : h.Ns mainGlobals mg)
    {C_Nought fI_Nought C_Poly f_common_part f_fraction_of dt_fraction_of f_added f_multiplied f_show_fraction f_of_degree f_exponents_to f_place_in_order f_product_at f_term_text f_law_box f_law_take f_law_alike f_law_shared f_law_lowest f_law_plus f_law_by f_law_number f_law_exponents cc_law_exponents pt_law_exponents f_law_power f_law_value f_law_poly f_law_gathered cc_law_gathered pt_law_gathered f_law_product f_law_is f_law_contrary f_law_equals f_law_right f_law_long f_law f_Poly_init cc_Poly_init pt_Poly_init dt_Poly_init f_Poly_eq f_Poly_len f_Poly_str f_Poly_repr f_Poly_terms f_Poly_degree f_Poly_worth f_Poly_plus f_Poly_by f_Poly_scaled : Addr}
    {ocI_Nought kVI_Nought dcI_Nought pmI_Nought cdI_Nought ctI_Nought oc_common_part kV_common_part dc_common_part pm_common_part cd_common_part ct_common_part oc_fraction_of kV_fraction_of dc_fraction_of pm_fraction_of cd_fraction_of ct_fraction_of do_fraction_of oc_added kV_added dc_added pm_added cd_added ct_added oc_multiplied kV_multiplied dc_multiplied pm_multiplied cd_multiplied ct_multiplied oc_show_fraction kV_show_fraction dc_show_fraction pm_show_fraction cd_show_fraction ct_show_fraction oc_of_degree kV_of_degree dc_of_degree pm_of_degree cd_of_degree ct_of_degree oc_exponents_to kV_exponents_to dc_exponents_to pm_exponents_to cd_exponents_to ct_exponents_to oc_place_in_order kV_place_in_order dc_place_in_order pm_place_in_order cd_place_in_order ct_place_in_order oc_product_at kV_product_at dc_product_at pm_product_at cd_product_at ct_product_at oc_term_text kV_term_text dc_term_text pm_term_text cd_term_text ct_term_text oc_law_box kV_law_box dc_law_box pm_law_box cd_law_box ct_law_box oc_law_take kV_law_take dc_law_take pm_law_take cd_law_take ct_law_take oc_law_alike kV_law_alike dc_law_alike pm_law_alike cd_law_alike ct_law_alike oc_law_shared kV_law_shared dc_law_shared pm_law_shared cd_law_shared ct_law_shared oc_law_lowest kV_law_lowest dc_law_lowest pm_law_lowest cd_law_lowest ct_law_lowest oc_law_plus kV_law_plus dc_law_plus pm_law_plus cd_law_plus ct_law_plus oc_law_by kV_law_by dc_law_by pm_law_by cd_law_by ct_law_by oc_law_number kV_law_number dc_law_number pm_law_number cd_law_number ct_law_number oc_law_exponents kV_law_exponents dc_law_exponents pm_law_exponents ct_law_exponents oc_law_power kV_law_power dc_law_power pm_law_power cd_law_power ct_law_power oc_law_value kV_law_value dc_law_value pm_law_value cd_law_value ct_law_value oc_law_poly kV_law_poly dc_law_poly pm_law_poly cd_law_poly ct_law_poly oc_law_gathered kV_law_gathered dc_law_gathered pm_law_gathered ct_law_gathered oc_law_product kV_law_product dc_law_product pm_law_product cd_law_product ct_law_product oc_law_is kV_law_is dc_law_is pm_law_is cd_law_is ct_law_is oc_law_contrary kV_law_contrary dc_law_contrary pm_law_contrary cd_law_contrary ct_law_contrary oc_law_equals kV_law_equals dc_law_equals pm_law_equals cd_law_equals ct_law_equals oc_law_right kV_law_right dc_law_right pm_law_right cd_law_right ct_law_right oc_law_long kV_law_long dc_law_long pm_law_long cd_law_long ct_law_long oc_law kV_law dc_law pm_law cd_law ct_law oc_Poly_init kV_Poly_init dc_Poly_init pm_Poly_init ct_Poly_init do_Poly_init oc_Poly_eq kV_Poly_eq dc_Poly_eq pm_Poly_eq cd_Poly_eq ct_Poly_eq oc_Poly_len kV_Poly_len dc_Poly_len pm_Poly_len cd_Poly_len ct_Poly_len oc_Poly_str kV_Poly_str dc_Poly_str pm_Poly_str cd_Poly_str ct_Poly_str oc_Poly_repr kV_Poly_repr dc_Poly_repr pm_Poly_repr cd_Poly_repr ct_Poly_repr oc_Poly_terms kV_Poly_terms dc_Poly_terms pm_Poly_terms cd_Poly_terms ct_Poly_terms oc_Poly_degree kV_Poly_degree dc_Poly_degree pm_Poly_degree cd_Poly_degree ct_Poly_degree oc_Poly_worth kV_Poly_worth dc_Poly_worth pm_Poly_worth cd_Poly_worth ct_Poly_worth oc_Poly_plus kV_Poly_plus dc_Poly_plus pm_Poly_plus cd_Poly_plus ct_Poly_plus oc_Poly_by kV_Poly_by dc_Poly_by pm_Poly_by cd_Poly_by ct_Poly_by oc_Poly_scaled kV_Poly_scaled dc_Poly_scaled pm_Poly_scaled cd_Poly_scaled ct_Poly_scaled : Value}
    {odI_Nought anI_Nought od_common_part an_common_part od_fraction_of an_fraction_of dd_fraction_of od_added an_added od_multiplied an_multiplied od_show_fraction an_show_fraction od_of_degree an_of_degree od_exponents_to an_exponents_to od_place_in_order an_place_in_order od_product_at an_product_at od_term_text an_term_text od_law_box an_law_box od_law_take an_law_take od_law_alike an_law_alike od_law_shared an_law_shared od_law_lowest an_law_lowest od_law_plus an_law_plus od_law_by an_law_by od_law_number an_law_number od_law_exponents an_law_exponents od_law_power an_law_power od_law_value an_law_value od_law_poly an_law_poly od_law_gathered an_law_gathered od_law_product an_law_product od_law_is an_law_is od_law_contrary an_law_contrary od_law_equals an_law_equals od_law_right an_law_right od_law_long an_law_long od_law an_law od_Poly_init an_Poly_init dd_Poly_init od_Poly_eq an_Poly_eq od_Poly_len an_Poly_len od_Poly_str an_Poly_str od_Poly_repr an_Poly_repr od_Poly_terms an_Poly_terms od_Poly_degree an_Poly_degree od_Poly_worth an_Poly_worth od_Poly_plus an_Poly_plus od_Poly_by an_Poly_by od_Poly_scaled an_Poly_scaled : Option Addr}
    {slI_Nought sl_common_part sl_fraction_of ds_fraction_of sl_added sl_multiplied sl_show_fraction sl_of_degree sl_exponents_to sl_place_in_order sl_product_at sl_term_text sl_law_box sl_law_take sl_law_alike sl_law_shared sl_law_lowest sl_law_plus sl_law_by sl_law_number sl_law_exponents sl_law_power sl_law_value sl_law_poly sl_law_gathered sl_law_product sl_law_is sl_law_contrary sl_law_equals sl_law_right sl_law_long sl_law sl_Poly_init ds_Poly_init sl_Poly_eq sl_Poly_len sl_Poly_str sl_Poly_repr sl_Poly_terms sl_Poly_degree sl_Poly_worth sl_Poly_plus sl_Poly_by sl_Poly_scaled : Array (Option Value)}
    {dk_fraction_of0 : Tok}
    {nm_Nought qn_Nought : Str} {Nn_Nought : Addr} {bs_Nought : List Value} {sn_Nought : List Str} {sub_Nought : List Value} {ab_Nought : Bool} {col_Nought : Option Bool} {dd_Nought : Option Addr} {m0_Nought m1_Nought m2_Nought m3_Nought m5_Nought : Option Value}
    {dn_fraction_of : Nat}
    {dn_Poly_init : Nat}
    (ac_Nought : PySem.W.nsIn K mainGlobals "Nought" = some (some (.ref C_Nought)))
    (xl_Nought : K.lookup C_Nought = some (excClassObj nm_Nought qn_Nought C_Nought Nn_Nought bs_Nought [.type "ZeroDivisionError", .type "ArithmeticError", .type "Exception", .type "BaseException", .type "object"] true sn_Nought sub_Nought ab_Nought col_Nought dd_Nought m0_Nought m1_Nought m2_Nought m3_Nought m5_Nought "ZeroDivisionError.__new__"))
    (xe_Nought : PySem.W.subIn K (.ref C_Nought) (.type "BaseException") = some true)
    (xt_Nought : PySem.W.typeIn K (.ref C_Nought) = some (.type "type"))
    (xk_Nought : PySem.W.keepIn K (.ref C_Nought) = true)
    (xi_Nought : PySem.W.isClsIn K C_Nought = true)
    (xs_Nought : PySem.W.subIn K (.ref C_Nought) (.ref C_Nought) = some true)
    (g1_Nought : PySem.W.findIn K (.ref C_Nought) "__getattribute__" = some (some (.builtin "BaseException.__getattribute__")))
    (g2_Nought : PySem.W.findIn K (.ref C_Nought) "__getattr__" = some none)
    (g3_Nought : PySem.W.hasDictIn K C_Nought = true)
    (g4_Nought : PySem.W.findIn K (.ref C_Nought) "__class__" = some (some (.builtin "object.__class__")))
    (g5_Nought : PySem.W.specialIn K (.builtin "object.__class__") "__get__" = some (some (.builtin "getset_descriptor.__get__")))
    (g6_Nought : PySem.W.takesIn K (.builtin "object.__class__") = some true)
    (g7_Nought : PySem.W.mroIn K C_Nought (.type "object") = some true)
    (iI_Nought : PySem.W.findIn K (.ref C_Nought) "__init__" = some (some (.ref fI_Nought)))
    (tI_Nought : PySem.W.typeIn K (.ref fI_Nought) = some (.type "function"))
    (lI_Nought : K.lookup fI_Nought = some ⟨ocI_Nought, odI_Nought, .func (PySem.W.fnOf "__init__" "Nought.__init__" (defArgs sI_Nought) (defBody sI_Nought) (defScope sI_Nought) .none kVI_Nought dcI_Nought pmI_Nought anI_Nought cdI_Nought ctI_Nought), slI_Nought⟩)
    (cI_Nought : PySem.W.codeIn K cdI_Nought "Nought.__init__" = true)
    (kI_Nought : PySem.W.keepIn K (.ref fI_Nought) = true)
    (ac_Poly : PySem.W.nsIn K mainGlobals "Poly" = some (some (.ref C_Poly)))
    (pg_Poly : PySem.W.plainGet K C_Poly Str.empty = true)
    (hd_Poly : PySem.W.hasDictIn K C_Poly = true)
    (po_Poly : PySem.W.plainOver K C_Poly = true)
    (sa_Poly : PySem.W.findIn K (.ref C_Poly) "__setattr__" = some (some (.builtin "object.__setattr__")))
    (nf_Poly_boxes : PySem.W.findIn K (.ref C_Poly) "boxes" = some none)
    (nf_Poly_kept : PySem.W.findIn K (.ref C_Poly) "kept" = some none)
    (mi_Poly : PySem.W.makesIn K C_Poly = true)
    (kc_Poly : PySem.W.keepIn K (.ref C_Poly) = true)
    (vb_ZeroDivisionError : PySem.W.findCls K (.type "ZeroDivisionError") (.type "type") "__init__" = some (.val (.builtin "ZeroDivisionError.__init__")))
    (qnl_Poly : PySem.W.subIn K (.type "list") (.ref C_Poly) = some false)
    (qnt_Poly : PySem.W.subIn K (.type "tuple") (.ref C_Poly) = some false)
    (qni_Poly : PySem.W.subIn K (.type "int") (.ref C_Poly) = some false)
    (qha_Poly : PySem.W.findIn K (.ref C_Poly) "__class__" = some (some (.builtin "object.__class__")))
    (qhn_Poly : PySem.W.specialIn K (.builtin "object.__class__") "__get__" = some (some (.builtin "getset_descriptor.__get__")))
    (qht_Poly : PySem.W.takesIn K (.builtin "object.__class__") = some true)
    (qhm_Poly : PySem.W.mroIn K C_Poly (.type "object") = some true)
    (qci_Poly : PySem.W.isClsIn K C_Poly = true)
    (qty_Poly : PySem.W.typeIn K (.ref C_Poly) = some (.type "type"))
    (a_common_part : PySem.W.nsIn K mainGlobals "common_part" = some (some (.ref f_common_part)))
    (l_common_part : K.lookup f_common_part = some ⟨oc_common_part, od_common_part, .func (PySem.W.fnOf "common_part" "common_part" (defArgs s_common_part) (defBody s_common_part) (defScope s_common_part) .none kV_common_part dc_common_part pm_common_part an_common_part cd_common_part ct_common_part), sl_common_part⟩)
    (c_common_part : PySem.W.codeIn K cd_common_part "common_part" = true)
    (k_common_part : PySem.W.keepIn K (.ref f_common_part) = true)
    (a_fraction_of : PySem.W.nsIn K mainGlobals "fraction_of" = some (some (.ref f_fraction_of)))
    (l_fraction_of : K.lookup f_fraction_of = some ⟨oc_fraction_of, od_fraction_of, .func (PySem.W.fnOf "fraction_of" "fraction_of" (defArgs s_fraction_of) (defBody s_fraction_of) (defScope s_fraction_of) (.ref dt_fraction_of) kV_fraction_of dc_fraction_of pm_fraction_of an_fraction_of cd_fraction_of ct_fraction_of), sl_fraction_of⟩)
    (c_fraction_of : PySem.W.codeIn K cd_fraction_of "fraction_of" = true)
    (k_fraction_of : PySem.W.keepIn K (.ref f_fraction_of) = true)
    (t_fraction_of : K.lookup dt_fraction_of = some ⟨do_fraction_of, dd_fraction_of, .seq #[.int 1 dk_fraction_of0] dn_fraction_of, ds_fraction_of⟩)
    (a_added : PySem.W.nsIn K mainGlobals "added" = some (some (.ref f_added)))
    (l_added : K.lookup f_added = some ⟨oc_added, od_added, .func (PySem.W.fnOf "added" "added" (defArgs s_added) (defBody s_added) (defScope s_added) .none kV_added dc_added pm_added an_added cd_added ct_added), sl_added⟩)
    (c_added : PySem.W.codeIn K cd_added "added" = true)
    (k_added : PySem.W.keepIn K (.ref f_added) = true)
    (a_multiplied : PySem.W.nsIn K mainGlobals "multiplied" = some (some (.ref f_multiplied)))
    (l_multiplied : K.lookup f_multiplied = some ⟨oc_multiplied, od_multiplied, .func (PySem.W.fnOf "multiplied" "multiplied" (defArgs s_multiplied) (defBody s_multiplied) (defScope s_multiplied) .none kV_multiplied dc_multiplied pm_multiplied an_multiplied cd_multiplied ct_multiplied), sl_multiplied⟩)
    (c_multiplied : PySem.W.codeIn K cd_multiplied "multiplied" = true)
    (k_multiplied : PySem.W.keepIn K (.ref f_multiplied) = true)
    (a_show_fraction : PySem.W.nsIn K mainGlobals "show_fraction" = some (some (.ref f_show_fraction)))
    (l_show_fraction : K.lookup f_show_fraction = some ⟨oc_show_fraction, od_show_fraction, .func (PySem.W.fnOf "show_fraction" "show_fraction" (defArgs s_show_fraction) (defBody s_show_fraction) (defScope s_show_fraction) .none kV_show_fraction dc_show_fraction pm_show_fraction an_show_fraction cd_show_fraction ct_show_fraction), sl_show_fraction⟩)
    (c_show_fraction : PySem.W.codeIn K cd_show_fraction "show_fraction" = true)
    (k_show_fraction : PySem.W.keepIn K (.ref f_show_fraction) = true)
    (a_of_degree : PySem.W.nsIn K mainGlobals "of_degree" = some (some (.ref f_of_degree)))
    (l_of_degree : K.lookup f_of_degree = some ⟨oc_of_degree, od_of_degree, .func (PySem.W.fnOf "of_degree" "of_degree" (defArgs s_of_degree) (defBody s_of_degree) (defScope s_of_degree) .none kV_of_degree dc_of_degree pm_of_degree an_of_degree cd_of_degree ct_of_degree), sl_of_degree⟩)
    (c_of_degree : PySem.W.codeIn K cd_of_degree "of_degree" = true)
    (k_of_degree : PySem.W.keepIn K (.ref f_of_degree) = true)
    (a_exponents_to : PySem.W.nsIn K mainGlobals "exponents_to" = some (some (.ref f_exponents_to)))
    (l_exponents_to : K.lookup f_exponents_to = some ⟨oc_exponents_to, od_exponents_to, .func (PySem.W.fnOf "exponents_to" "exponents_to" (defArgs s_exponents_to) (defBody s_exponents_to) (defScope s_exponents_to) .none kV_exponents_to dc_exponents_to pm_exponents_to an_exponents_to cd_exponents_to ct_exponents_to), sl_exponents_to⟩)
    (c_exponents_to : PySem.W.codeIn K cd_exponents_to "exponents_to" = true)
    (k_exponents_to : PySem.W.keepIn K (.ref f_exponents_to) = true)
    (a_place_in_order : PySem.W.nsIn K mainGlobals "place_in_order" = some (some (.ref f_place_in_order)))
    (l_place_in_order : K.lookup f_place_in_order = some ⟨oc_place_in_order, od_place_in_order, .func (PySem.W.fnOf "place_in_order" "place_in_order" (defArgs s_place_in_order) (defBody s_place_in_order) (defScope s_place_in_order) .none kV_place_in_order dc_place_in_order pm_place_in_order an_place_in_order cd_place_in_order ct_place_in_order), sl_place_in_order⟩)
    (c_place_in_order : PySem.W.codeIn K cd_place_in_order "place_in_order" = true)
    (k_place_in_order : PySem.W.keepIn K (.ref f_place_in_order) = true)
    (a_product_at : PySem.W.nsIn K mainGlobals "product_at" = some (some (.ref f_product_at)))
    (l_product_at : K.lookup f_product_at = some ⟨oc_product_at, od_product_at, .func (PySem.W.fnOf "product_at" "product_at" (defArgs s_product_at) (defBody s_product_at) (defScope s_product_at) .none kV_product_at dc_product_at pm_product_at an_product_at cd_product_at ct_product_at), sl_product_at⟩)
    (c_product_at : PySem.W.codeIn K cd_product_at "product_at" = true)
    (k_product_at : PySem.W.keepIn K (.ref f_product_at) = true)
    (a_term_text : PySem.W.nsIn K mainGlobals "term_text" = some (some (.ref f_term_text)))
    (l_term_text : K.lookup f_term_text = some ⟨oc_term_text, od_term_text, .func (PySem.W.fnOf "term_text" "term_text" (defArgs s_term_text) (defBody s_term_text) (defScope s_term_text) .none kV_term_text dc_term_text pm_term_text an_term_text cd_term_text ct_term_text), sl_term_text⟩)
    (c_term_text : PySem.W.codeIn K cd_term_text "term_text" = true)
    (k_term_text : PySem.W.keepIn K (.ref f_term_text) = true)
    (a_law_box : PySem.W.nsIn K mainGlobals "_law_box" = some (some (.ref f_law_box)))
    (l_law_box : K.lookup f_law_box = some ⟨oc_law_box, od_law_box, .func (PySem.W.fnOf "_law_box" "_law_box" (defArgs s_law_box) (defBody s_law_box) (defScope s_law_box) .none kV_law_box dc_law_box pm_law_box an_law_box cd_law_box ct_law_box), sl_law_box⟩)
    (c_law_box : PySem.W.codeIn K cd_law_box "_law_box" = true)
    (k_law_box : PySem.W.keepIn K (.ref f_law_box) = true)
    (a_law_take : PySem.W.nsIn K mainGlobals "_law_take" = some (some (.ref f_law_take)))
    (l_law_take : K.lookup f_law_take = some ⟨oc_law_take, od_law_take, .func (PySem.W.fnOf "_law_take" "_law_take" (defArgs s_law_take) (defBody s_law_take) (defScope s_law_take) .none kV_law_take dc_law_take pm_law_take an_law_take cd_law_take ct_law_take), sl_law_take⟩)
    (c_law_take : PySem.W.codeIn K cd_law_take "_law_take" = true)
    (k_law_take : PySem.W.keepIn K (.ref f_law_take) = true)
    (a_law_alike : PySem.W.nsIn K mainGlobals "_law_alike" = some (some (.ref f_law_alike)))
    (l_law_alike : K.lookup f_law_alike = some ⟨oc_law_alike, od_law_alike, .func (PySem.W.fnOf "_law_alike" "_law_alike" (defArgs s_law_alike) (defBody s_law_alike) (defScope s_law_alike) .none kV_law_alike dc_law_alike pm_law_alike an_law_alike cd_law_alike ct_law_alike), sl_law_alike⟩)
    (c_law_alike : PySem.W.codeIn K cd_law_alike "_law_alike" = true)
    (k_law_alike : PySem.W.keepIn K (.ref f_law_alike) = true)
    (a_law_shared : PySem.W.nsIn K mainGlobals "_law_shared" = some (some (.ref f_law_shared)))
    (l_law_shared : K.lookup f_law_shared = some ⟨oc_law_shared, od_law_shared, .func (PySem.W.fnOf "_law_shared" "_law_shared" (defArgs s_law_shared) (defBody s_law_shared) (defScope s_law_shared) .none kV_law_shared dc_law_shared pm_law_shared an_law_shared cd_law_shared ct_law_shared), sl_law_shared⟩)
    (c_law_shared : PySem.W.codeIn K cd_law_shared "_law_shared" = true)
    (k_law_shared : PySem.W.keepIn K (.ref f_law_shared) = true)
    (a_law_lowest : PySem.W.nsIn K mainGlobals "_law_lowest" = some (some (.ref f_law_lowest)))
    (l_law_lowest : K.lookup f_law_lowest = some ⟨oc_law_lowest, od_law_lowest, .func (PySem.W.fnOf "_law_lowest" "_law_lowest" (defArgs s_law_lowest) (defBody s_law_lowest) (defScope s_law_lowest) .none kV_law_lowest dc_law_lowest pm_law_lowest an_law_lowest cd_law_lowest ct_law_lowest), sl_law_lowest⟩)
    (c_law_lowest : PySem.W.codeIn K cd_law_lowest "_law_lowest" = true)
    (k_law_lowest : PySem.W.keepIn K (.ref f_law_lowest) = true)
    (a_law_plus : PySem.W.nsIn K mainGlobals "_law_plus" = some (some (.ref f_law_plus)))
    (l_law_plus : K.lookup f_law_plus = some ⟨oc_law_plus, od_law_plus, .func (PySem.W.fnOf "_law_plus" "_law_plus" (defArgs s_law_plus) (defBody s_law_plus) (defScope s_law_plus) .none kV_law_plus dc_law_plus pm_law_plus an_law_plus cd_law_plus ct_law_plus), sl_law_plus⟩)
    (c_law_plus : PySem.W.codeIn K cd_law_plus "_law_plus" = true)
    (k_law_plus : PySem.W.keepIn K (.ref f_law_plus) = true)
    (a_law_by : PySem.W.nsIn K mainGlobals "_law_by" = some (some (.ref f_law_by)))
    (l_law_by : K.lookup f_law_by = some ⟨oc_law_by, od_law_by, .func (PySem.W.fnOf "_law_by" "_law_by" (defArgs s_law_by) (defBody s_law_by) (defScope s_law_by) .none kV_law_by dc_law_by pm_law_by an_law_by cd_law_by ct_law_by), sl_law_by⟩)
    (c_law_by : PySem.W.codeIn K cd_law_by "_law_by" = true)
    (k_law_by : PySem.W.keepIn K (.ref f_law_by) = true)
    (a_law_number : PySem.W.nsIn K mainGlobals "_law_number" = some (some (.ref f_law_number)))
    (l_law_number : K.lookup f_law_number = some ⟨oc_law_number, od_law_number, .func (PySem.W.fnOf "_law_number" "_law_number" (defArgs s_law_number) (defBody s_law_number) (defScope s_law_number) .none kV_law_number dc_law_number pm_law_number an_law_number cd_law_number ct_law_number), sl_law_number⟩)
    (c_law_number : PySem.W.codeIn K cd_law_number "_law_number" = true)
    (k_law_number : PySem.W.keepIn K (.ref f_law_number) = true)
    (a_law_exponents : PySem.W.nsIn K mainGlobals "_law_exponents" = some (some (.ref f_law_exponents)))
    (l_law_exponents : K.lookup f_law_exponents = some ⟨oc_law_exponents, od_law_exponents, .func (PySem.W.fnOf "_law_exponents" "_law_exponents" (defArgs s_law_exponents) (defBody s_law_exponents) (defScope s_law_exponents) .none kV_law_exponents dc_law_exponents pm_law_exponents an_law_exponents (.ref cc_law_exponents) ct_law_exponents), sl_law_exponents⟩)
    (c_law_exponents : PySem.W.codeIn K (.ref cc_law_exponents) "_law_exponents" = true)
    (k_law_exponents : PySem.W.keepIn K (.ref f_law_exponents) = true)
    (a_law_power : PySem.W.nsIn K mainGlobals "_law_power" = some (some (.ref f_law_power)))
    (l_law_power : K.lookup f_law_power = some ⟨oc_law_power, od_law_power, .func (PySem.W.fnOf "_law_power" "_law_power" (defArgs s_law_power) (defBody s_law_power) (defScope s_law_power) .none kV_law_power dc_law_power pm_law_power an_law_power cd_law_power ct_law_power), sl_law_power⟩)
    (c_law_power : PySem.W.codeIn K cd_law_power "_law_power" = true)
    (k_law_power : PySem.W.keepIn K (.ref f_law_power) = true)
    (a_law_value : PySem.W.nsIn K mainGlobals "_law_value" = some (some (.ref f_law_value)))
    (l_law_value : K.lookup f_law_value = some ⟨oc_law_value, od_law_value, .func (PySem.W.fnOf "_law_value" "_law_value" (defArgs s_law_value) (defBody s_law_value) (defScope s_law_value) .none kV_law_value dc_law_value pm_law_value an_law_value cd_law_value ct_law_value), sl_law_value⟩)
    (c_law_value : PySem.W.codeIn K cd_law_value "_law_value" = true)
    (k_law_value : PySem.W.keepIn K (.ref f_law_value) = true)
    (a_law_poly : PySem.W.nsIn K mainGlobals "_law_poly" = some (some (.ref f_law_poly)))
    (l_law_poly : K.lookup f_law_poly = some ⟨oc_law_poly, od_law_poly, .func (PySem.W.fnOf "_law_poly" "_law_poly" (defArgs s_law_poly) (defBody s_law_poly) (defScope s_law_poly) .none kV_law_poly dc_law_poly pm_law_poly an_law_poly cd_law_poly ct_law_poly), sl_law_poly⟩)
    (c_law_poly : PySem.W.codeIn K cd_law_poly "_law_poly" = true)
    (k_law_poly : PySem.W.keepIn K (.ref f_law_poly) = true)
    (a_law_gathered : PySem.W.nsIn K mainGlobals "_law_gathered" = some (some (.ref f_law_gathered)))
    (l_law_gathered : K.lookup f_law_gathered = some ⟨oc_law_gathered, od_law_gathered, .func (PySem.W.fnOf "_law_gathered" "_law_gathered" (defArgs s_law_gathered) (defBody s_law_gathered) (defScope s_law_gathered) .none kV_law_gathered dc_law_gathered pm_law_gathered an_law_gathered (.ref cc_law_gathered) ct_law_gathered), sl_law_gathered⟩)
    (c_law_gathered : PySem.W.codeIn K (.ref cc_law_gathered) "_law_gathered" = true)
    (k_law_gathered : PySem.W.keepIn K (.ref f_law_gathered) = true)
    (a_law_product : PySem.W.nsIn K mainGlobals "_law_product" = some (some (.ref f_law_product)))
    (l_law_product : K.lookup f_law_product = some ⟨oc_law_product, od_law_product, .func (PySem.W.fnOf "_law_product" "_law_product" (defArgs s_law_product) (defBody s_law_product) (defScope s_law_product) .none kV_law_product dc_law_product pm_law_product an_law_product cd_law_product ct_law_product), sl_law_product⟩)
    (c_law_product : PySem.W.codeIn K cd_law_product "_law_product" = true)
    (k_law_product : PySem.W.keepIn K (.ref f_law_product) = true)
    (a_law_is : PySem.W.nsIn K mainGlobals "_law_is" = some (some (.ref f_law_is)))
    (l_law_is : K.lookup f_law_is = some ⟨oc_law_is, od_law_is, .func (PySem.W.fnOf "_law_is" "_law_is" (defArgs s_law_is) (defBody s_law_is) (defScope s_law_is) .none kV_law_is dc_law_is pm_law_is an_law_is cd_law_is ct_law_is), sl_law_is⟩)
    (c_law_is : PySem.W.codeIn K cd_law_is "_law_is" = true)
    (k_law_is : PySem.W.keepIn K (.ref f_law_is) = true)
    (a_law_contrary : PySem.W.nsIn K mainGlobals "_law_contrary" = some (some (.ref f_law_contrary)))
    (l_law_contrary : K.lookup f_law_contrary = some ⟨oc_law_contrary, od_law_contrary, .func (PySem.W.fnOf "_law_contrary" "_law_contrary" (defArgs s_law_contrary) (defBody s_law_contrary) (defScope s_law_contrary) .none kV_law_contrary dc_law_contrary pm_law_contrary an_law_contrary cd_law_contrary ct_law_contrary), sl_law_contrary⟩)
    (c_law_contrary : PySem.W.codeIn K cd_law_contrary "_law_contrary" = true)
    (k_law_contrary : PySem.W.keepIn K (.ref f_law_contrary) = true)
    (a_law_equals : PySem.W.nsIn K mainGlobals "_law_equals" = some (some (.ref f_law_equals)))
    (l_law_equals : K.lookup f_law_equals = some ⟨oc_law_equals, od_law_equals, .func (PySem.W.fnOf "_law_equals" "_law_equals" (defArgs s_law_equals) (defBody s_law_equals) (defScope s_law_equals) .none kV_law_equals dc_law_equals pm_law_equals an_law_equals cd_law_equals ct_law_equals), sl_law_equals⟩)
    (c_law_equals : PySem.W.codeIn K cd_law_equals "_law_equals" = true)
    (k_law_equals : PySem.W.keepIn K (.ref f_law_equals) = true)
    (a_law_right : PySem.W.nsIn K mainGlobals "_law_right" = some (some (.ref f_law_right)))
    (l_law_right : K.lookup f_law_right = some ⟨oc_law_right, od_law_right, .func (PySem.W.fnOf "_law_right" "_law_right" (defArgs s_law_right) (defBody s_law_right) (defScope s_law_right) .none kV_law_right dc_law_right pm_law_right an_law_right cd_law_right ct_law_right), sl_law_right⟩)
    (c_law_right : PySem.W.codeIn K cd_law_right "_law_right" = true)
    (k_law_right : PySem.W.keepIn K (.ref f_law_right) = true)
    (a_law_long : PySem.W.nsIn K mainGlobals "_law_long" = some (some (.ref f_law_long)))
    (l_law_long : K.lookup f_law_long = some ⟨oc_law_long, od_law_long, .func (PySem.W.fnOf "_law_long" "_law_long" (defArgs s_law_long) (defBody s_law_long) (defScope s_law_long) .none kV_law_long dc_law_long pm_law_long an_law_long cd_law_long ct_law_long), sl_law_long⟩)
    (c_law_long : PySem.W.codeIn K cd_law_long "_law_long" = true)
    (k_law_long : PySem.W.keepIn K (.ref f_law_long) = true)
    (a_law : PySem.W.nsIn K mainGlobals "law" = some (some (.ref f_law)))
    (l_law : K.lookup f_law = some ⟨oc_law, od_law, .func (PySem.W.fnOf "law" "law" (defArgs s_law) (defBody s_law) (defScope s_law) .none kV_law dc_law pm_law an_law cd_law ct_law), sl_law⟩)
    (c_law : PySem.W.codeIn K cd_law "law" = true)
    (k_law : PySem.W.keepIn K (.ref f_law) = true)
    (a_Poly_init : PySem.W.findIn K (.ref C_Poly) "__init__" = some (some (.ref f_Poly_init)))
    (i_Poly_init : PySem.W.isFn K (.ref f_Poly_init) = true)
    (l_Poly_init : K.lookup f_Poly_init = some ⟨oc_Poly_init, od_Poly_init, .func (PySem.W.fnOf "__init__" "Poly.__init__" (defArgs s_Poly_init) (defBody s_Poly_init) (defScope s_Poly_init) (.ref dt_Poly_init) kV_Poly_init dc_Poly_init pm_Poly_init an_Poly_init (.ref cc_Poly_init) ct_Poly_init), sl_Poly_init⟩)
    (c_Poly_init : PySem.W.codeIn K (.ref cc_Poly_init) "Poly.__init__" = true)
    (k_Poly_init : PySem.W.keepIn K (.ref f_Poly_init) = true)
    (t_Poly_init : K.lookup dt_Poly_init = some ⟨do_Poly_init, dd_Poly_init, .seq #[.none] dn_Poly_init, ds_Poly_init⟩)
    (a_Poly_eq : PySem.W.findIn K (.ref C_Poly) "__eq__" = some (some (.ref f_Poly_eq)))
    (i_Poly_eq : PySem.W.isFn K (.ref f_Poly_eq) = true)
    (l_Poly_eq : K.lookup f_Poly_eq = some ⟨oc_Poly_eq, od_Poly_eq, .func (PySem.W.fnOf "__eq__" "Poly.__eq__" (defArgs s_Poly_eq) (defBody s_Poly_eq) (defScope s_Poly_eq) .none kV_Poly_eq dc_Poly_eq pm_Poly_eq an_Poly_eq cd_Poly_eq ct_Poly_eq), sl_Poly_eq⟩)
    (c_Poly_eq : PySem.W.codeIn K cd_Poly_eq "Poly.__eq__" = true)
    (k_Poly_eq : PySem.W.keepIn K (.ref f_Poly_eq) = true)
    (a_Poly_len : PySem.W.findIn K (.ref C_Poly) "__len__" = some (some (.ref f_Poly_len)))
    (i_Poly_len : PySem.W.isFn K (.ref f_Poly_len) = true)
    (l_Poly_len : K.lookup f_Poly_len = some ⟨oc_Poly_len, od_Poly_len, .func (PySem.W.fnOf "__len__" "Poly.__len__" (defArgs s_Poly_len) (defBody s_Poly_len) (defScope s_Poly_len) .none kV_Poly_len dc_Poly_len pm_Poly_len an_Poly_len cd_Poly_len ct_Poly_len), sl_Poly_len⟩)
    (c_Poly_len : PySem.W.codeIn K cd_Poly_len "Poly.__len__" = true)
    (k_Poly_len : PySem.W.keepIn K (.ref f_Poly_len) = true)
    (a_Poly_str : PySem.W.findIn K (.ref C_Poly) "__str__" = some (some (.ref f_Poly_str)))
    (i_Poly_str : PySem.W.isFn K (.ref f_Poly_str) = true)
    (l_Poly_str : K.lookup f_Poly_str = some ⟨oc_Poly_str, od_Poly_str, .func (PySem.W.fnOf "__str__" "Poly.__str__" (defArgs s_Poly_str) (defBody s_Poly_str) (defScope s_Poly_str) .none kV_Poly_str dc_Poly_str pm_Poly_str an_Poly_str cd_Poly_str ct_Poly_str), sl_Poly_str⟩)
    (c_Poly_str : PySem.W.codeIn K cd_Poly_str "Poly.__str__" = true)
    (k_Poly_str : PySem.W.keepIn K (.ref f_Poly_str) = true)
    (a_Poly_repr : PySem.W.findIn K (.ref C_Poly) "__repr__" = some (some (.ref f_Poly_repr)))
    (i_Poly_repr : PySem.W.isFn K (.ref f_Poly_repr) = true)
    (l_Poly_repr : K.lookup f_Poly_repr = some ⟨oc_Poly_repr, od_Poly_repr, .func (PySem.W.fnOf "__repr__" "Poly.__repr__" (defArgs s_Poly_repr) (defBody s_Poly_repr) (defScope s_Poly_repr) .none kV_Poly_repr dc_Poly_repr pm_Poly_repr an_Poly_repr cd_Poly_repr ct_Poly_repr), sl_Poly_repr⟩)
    (c_Poly_repr : PySem.W.codeIn K cd_Poly_repr "Poly.__repr__" = true)
    (k_Poly_repr : PySem.W.keepIn K (.ref f_Poly_repr) = true)
    (a_Poly_terms : PySem.W.findIn K (.ref C_Poly) "terms" = some (some (.ref f_Poly_terms)))
    (i_Poly_terms : PySem.W.isFn K (.ref f_Poly_terms) = true)
    (l_Poly_terms : K.lookup f_Poly_terms = some ⟨oc_Poly_terms, od_Poly_terms, .func (PySem.W.fnOf "terms" "Poly.terms" (defArgs s_Poly_terms) (defBody s_Poly_terms) (defScope s_Poly_terms) .none kV_Poly_terms dc_Poly_terms pm_Poly_terms an_Poly_terms cd_Poly_terms ct_Poly_terms), sl_Poly_terms⟩)
    (c_Poly_terms : PySem.W.codeIn K cd_Poly_terms "Poly.terms" = true)
    (k_Poly_terms : PySem.W.keepIn K (.ref f_Poly_terms) = true)
    (a_Poly_degree : PySem.W.findIn K (.ref C_Poly) "degree" = some (some (.ref f_Poly_degree)))
    (i_Poly_degree : PySem.W.isFn K (.ref f_Poly_degree) = true)
    (l_Poly_degree : K.lookup f_Poly_degree = some ⟨oc_Poly_degree, od_Poly_degree, .func (PySem.W.fnOf "degree" "Poly.degree" (defArgs s_Poly_degree) (defBody s_Poly_degree) (defScope s_Poly_degree) .none kV_Poly_degree dc_Poly_degree pm_Poly_degree an_Poly_degree cd_Poly_degree ct_Poly_degree), sl_Poly_degree⟩)
    (c_Poly_degree : PySem.W.codeIn K cd_Poly_degree "Poly.degree" = true)
    (k_Poly_degree : PySem.W.keepIn K (.ref f_Poly_degree) = true)
    (a_Poly_worth : PySem.W.findIn K (.ref C_Poly) "worth" = some (some (.ref f_Poly_worth)))
    (i_Poly_worth : PySem.W.isFn K (.ref f_Poly_worth) = true)
    (l_Poly_worth : K.lookup f_Poly_worth = some ⟨oc_Poly_worth, od_Poly_worth, .func (PySem.W.fnOf "worth" "Poly.worth" (defArgs s_Poly_worth) (defBody s_Poly_worth) (defScope s_Poly_worth) .none kV_Poly_worth dc_Poly_worth pm_Poly_worth an_Poly_worth cd_Poly_worth ct_Poly_worth), sl_Poly_worth⟩)
    (c_Poly_worth : PySem.W.codeIn K cd_Poly_worth "Poly.worth" = true)
    (k_Poly_worth : PySem.W.keepIn K (.ref f_Poly_worth) = true)
    (a_Poly_plus : PySem.W.findIn K (.ref C_Poly) "plus" = some (some (.ref f_Poly_plus)))
    (i_Poly_plus : PySem.W.isFn K (.ref f_Poly_plus) = true)
    (l_Poly_plus : K.lookup f_Poly_plus = some ⟨oc_Poly_plus, od_Poly_plus, .func (PySem.W.fnOf "plus" "Poly.plus" (defArgs s_Poly_plus) (defBody s_Poly_plus) (defScope s_Poly_plus) .none kV_Poly_plus dc_Poly_plus pm_Poly_plus an_Poly_plus cd_Poly_plus ct_Poly_plus), sl_Poly_plus⟩)
    (c_Poly_plus : PySem.W.codeIn K cd_Poly_plus "Poly.plus" = true)
    (k_Poly_plus : PySem.W.keepIn K (.ref f_Poly_plus) = true)
    (a_Poly_by : PySem.W.findIn K (.ref C_Poly) "by" = some (some (.ref f_Poly_by)))
    (i_Poly_by : PySem.W.isFn K (.ref f_Poly_by) = true)
    (l_Poly_by : K.lookup f_Poly_by = some ⟨oc_Poly_by, od_Poly_by, .func (PySem.W.fnOf "by" "Poly.by" (defArgs s_Poly_by) (defBody s_Poly_by) (defScope s_Poly_by) .none kV_Poly_by dc_Poly_by pm_Poly_by an_Poly_by cd_Poly_by ct_Poly_by), sl_Poly_by⟩)
    (c_Poly_by : PySem.W.codeIn K cd_Poly_by "Poly.by" = true)
    (k_Poly_by : PySem.W.keepIn K (.ref f_Poly_by) = true)
    (a_Poly_scaled : PySem.W.findIn K (.ref C_Poly) "scaled" = some (some (.ref f_Poly_scaled)))
    (i_Poly_scaled : PySem.W.isFn K (.ref f_Poly_scaled) = true)
    (l_Poly_scaled : K.lookup f_Poly_scaled = some ⟨oc_Poly_scaled, od_Poly_scaled, .func (PySem.W.fnOf "scaled" "Poly.scaled" (defArgs s_Poly_scaled) (defBody s_Poly_scaled) (defScope s_Poly_scaled) .none kV_Poly_scaled dc_Poly_scaled pm_Poly_scaled an_Poly_scaled cd_Poly_scaled ct_Poly_scaled), sl_Poly_scaled⟩)
    (c_Poly_scaled : PySem.W.codeIn K cd_Poly_scaled "Poly.scaled" = true)
    (k_Poly_scaled : PySem.W.keepIn K (.ref f_Poly_scaled) = true)
    (zb_ZeroDivisionError : PySem.W.nsIn K mainGlobals "ZeroDivisionError" = some none)
    (zb_abs : PySem.W.nsIn K mainGlobals "abs" = some none)
    (zb_bool : PySem.W.nsIn K mainGlobals "bool" = some none)
    (zb_enumerate : PySem.W.nsIn K mainGlobals "enumerate" = some none)
    (zb_int : PySem.W.nsIn K mainGlobals "int" = some none)
    (zb_isinstance : PySem.W.nsIn K mainGlobals "isinstance" = some none)
    (zb_len : PySem.W.nsIn K mainGlobals "len" = some none)
    (zb_list : PySem.W.nsIn K mainGlobals "list" = some none)
    (zb_max : PySem.W.nsIn K mainGlobals "max" = some none)
    (zb_min : PySem.W.nsIn K mainGlobals "min" = some none)
    (zb_range : PySem.W.nsIn K mainGlobals "range" = some none)
    (zb_repr : PySem.W.nsIn K mainGlobals "repr" = some none)
    (zb_reversed : PySem.W.nsIn K mainGlobals "reversed" = some none)
    (zb_sorted : PySem.W.nsIn K mainGlobals "sorted" = some none)
    (zb_str : PySem.W.nsIn K mainGlobals "str" = some none)
    (zb_sum : PySem.W.nsIn K mainGlobals "sum" = some none)
    (zb_tuple : PySem.W.nsIn K mainGlobals "tuple" = some none)
    (zb_zip : PySem.W.nsIn K mainGlobals "zip" = some none)
    (tt_law_exponents : tabOfC K cc_law_exponents = some pt_law_exponents)
    (tt_law_gathered : tabOfC K cc_law_gathered = some pt_law_gathered)
    (tt_Poly_init : tabOfC K cc_Poly_init = some pt_Poly_init)
    (ch_law_exponents : PySem.W.codeHdIn K cc_law_exponents pt_law_exponents = true)
    (nl_law_exponents : K.lookup pt_law_exponents = none)
    (hq_law_exponents : h.get? pt_law_exponents = some (PySem.W.tabObj #[]))
    (ch_law_gathered : PySem.W.codeHdIn K cc_law_gathered pt_law_gathered = true)
    (nl_law_gathered : K.lookup pt_law_gathered = none)
    (hq_law_gathered : h.get? pt_law_gathered = some (PySem.W.tabObj #[]))
    (ch_Poly_init : PySem.W.codeHdIn K cc_Poly_init pt_Poly_init = true)
    (nl_Poly_init : K.lookup pt_Poly_init = none)
    (hq_Poly_init : h.get? pt_Poly_init = some (PySem.W.tabObj #[]))
    (pn_law_exponents_law_gathered : pt_law_exponents ≠ pt_law_gathered)
    (pn_law_exponents_Poly_init : pt_law_exponents ≠ pt_Poly_init)
    (pn_law_gathered_Poly_init : pt_law_gathered ≠ pt_Poly_init)
    : ∃ (dl : FuncData) (cs : List (Addr × Addr)) (tb : List (Addr × Str)), (∀ p ∈ cs, h.get? p.2 = some { cls := .none, data := .fields #[] }) ∧ (∀ p ∈ cs, K.lookup p.2 = none) ∧ (∀ p ∈ cs, PySem.W.CodeHd h p.1 p.2) ∧ (∀ p ∈ tb, ∃ q ∈ cs, q.2 = p.1) ∧ (∀ (s : Shared) (v : Value), BindsTo s dl ⟨[v], []⟩ [("_law_script", v)]) ∧ ∀ base : Heap, (∀ p ∈ cs, LamX.TabB base mg p.1 p.2) → ∃ T : Txt K mg base, T.a_law = f_law ∧ T.d_law = dl ∧ tabs T = tb := by
  refine ⟨_, [(cc_law_exponents, pt_law_exponents), (cc_law_gathered, pt_law_gathered), (cc_Poly_init, pt_Poly_init)], [(pt_law_exponents, (("_law_exponents" : Str) ++ ".<locals>.") ++ "<lambda>"), (pt_law_gathered, (("_law_gathered" : Str) ++ ".<locals>.") ++ "<lambda>"), (pt_Poly_init, (("Poly.__init__" : Str) ++ ".<locals>.") ++ "<lambda>")], ?_, ?_, ?_, ?_, fun s v => .of_eq ?_, fun base TB => ⟨{
    a_Nought := C_Nought,
    m_Nought := PySem.W.mg_of X G ac_Nought,
    x_Nought := ⟨⟨_, _, _, _, _, _, _, _, _, _, _, _, _, _, _, xl_Nought, fun Y => rfl⟩, xe_Nought, xt_Nought, xk_Nought⟩,
    i0_Nought := xi_Nought,
    t0_Nought := xt_Nought,
    s0_Nought := xs_Nought,
    e_Nought := exm_self xe_Nought xi_Nought xt_Nought xs_Nought,
    c_Nought := ⟨g1_Nought, g2_Nought, xe_Nought, g3_Nought, g4_Nought, g5_Nought, g6_Nought, g7_Nought⟩,
    aI_Nought := fI_Nought,
    dI_Nought := _,
    FI_Nought := fun_mk (st := sI_Nought) lI_Nought cI_Nought kI_Nought,
    bI_Nought := (fun_mk (st := sI_Nought) lI_Nought cI_Nought kI_Nought).binds (ps := ["self"]) fun _ _ _ _ _ _ us hl => match us, hl with | [_], _ => rfl,
    i_Nought := iI_Nought,
    t_Nought := tI_Nought,
    a_Poly := C_Poly,
    m_Poly := PySem.W.mg_of X G ac_Poly,
    cl_Poly := ⟨pg_Poly, hd_Poly, po_Poly, sa_Poly⟩,
    na_Poly_boxes := nf_Poly_boxes,
    na_Poly_kept := nf_Poly_kept,
    v_ZeroDivisionError := vb_ZeroDivisionError,
    oth_Poly := Oth.of qnl_Poly qnt_Poly qni_Poly qha_Poly qhn_Poly qht_Poly qhm_Poly qci_Poly qty_Poly,
    a_common_part := f_common_part,
    d_common_part := _,
    m_common_part := PySem.W.mg_of X G a_common_part,
    F_common_part := fun_mk (st := s_common_part) l_common_part c_common_part k_common_part,
    b_common_part := (fun_mk (st := s_common_part) l_common_part c_common_part k_common_part).binds (ps := ["one", "other"]) fun _ _ _ _ _ _ us hl => match us, hl with | [_, _], _ => rfl,
    a_fraction_of := f_fraction_of,
    d_fraction_of := _,
    m_fraction_of := PySem.W.mg_of X G a_fraction_of,
    F_fraction_of := (FunD.mk ⟨_, _, _, _, _, _, _, _, _, _, rfl, l_fraction_of, c_fraction_of, .inr ⟨by simp, _, _, [.int 1 dk_fraction_of0], _, rfl, t_fraction_of, rfl, (.cons ⟨_, rfl⟩ .nil)⟩, .inl rfl⟩ k_fraction_of : FunD K "fraction_of" "fraction_of" (defArgs s_fraction_of) (defBody s_fraction_of) (defScope s_fraction_of) [.int 1] [] f_fraction_of _),
    b_fraction_of := binds_all ((FunD.mk ⟨_, _, _, _, _, _, _, _, _, _, rfl, l_fraction_of, c_fraction_of, .inr ⟨by simp, _, _, [.int 1 dk_fraction_of0], _, rfl, t_fraction_of, rfl, (.cons ⟨_, rfl⟩ .nil)⟩, .inl rfl⟩ k_fraction_of : FunD K "fraction_of" "fraction_of" (defArgs s_fraction_of) (defBody s_fraction_of) (defScope s_fraction_of) [.int 1] [] f_fraction_of _).binds1 (ps := ["upper", "lower"]) 2 1 (by simp) rfl fun _ _ _ _ _ _ _ us its hl hi => match us, hl, its, hi with | [_, _], _, [_], _ => ⟨_, rfl, rfl⟩),
    bv_fraction_of1 := (FunD.mk ⟨_, _, _, _, _, _, _, _, _, _, rfl, l_fraction_of, c_fraction_of, .inr ⟨by simp, _, _, [.int 1 dk_fraction_of0], _, rfl, t_fraction_of, rfl, (.cons ⟨_, rfl⟩ .nil)⟩, .inl rfl⟩ k_fraction_of : FunD K "fraction_of" "fraction_of" (defArgs s_fraction_of) (defBody s_fraction_of) (defScope s_fraction_of) [.int 1] [] f_fraction_of _).binds1 (ps := ["upper", "lower"]) 1 0 (by simp) rfl fun _ _ _ _ _ _ _ us its hl hi => match us, hl, its, hi with | [_], _, [_], _ => ⟨_, rfl, rfl⟩,
    a_added := f_added,
    d_added := _,
    m_added := PySem.W.mg_of X G a_added,
    F_added := fun_mk (st := s_added) l_added c_added k_added,
    b_added := (fun_mk (st := s_added) l_added c_added k_added).binds (ps := ["one", "other"]) fun _ _ _ _ _ _ us hl => match us, hl with | [_, _], _ => rfl,
    a_multiplied := f_multiplied,
    d_multiplied := _,
    m_multiplied := PySem.W.mg_of X G a_multiplied,
    F_multiplied := fun_mk (st := s_multiplied) l_multiplied c_multiplied k_multiplied,
    b_multiplied := (fun_mk (st := s_multiplied) l_multiplied c_multiplied k_multiplied).binds (ps := ["one", "other"]) fun _ _ _ _ _ _ us hl => match us, hl with | [_, _], _ => rfl,
    a_show_fraction := f_show_fraction,
    d_show_fraction := _,
    m_show_fraction := PySem.W.mg_of X G a_show_fraction,
    F_show_fraction := fun_mk (st := s_show_fraction) l_show_fraction c_show_fraction k_show_fraction,
    b_show_fraction := (fun_mk (st := s_show_fraction) l_show_fraction c_show_fraction k_show_fraction).binds (ps := ["one"]) fun _ _ _ _ _ _ us hl => match us, hl with | [_], _ => rfl,
    a_of_degree := f_of_degree,
    d_of_degree := _,
    m_of_degree := PySem.W.mg_of X G a_of_degree,
    F_of_degree := fun_mk (st := s_of_degree) l_of_degree c_of_degree k_of_degree,
    b_of_degree := (fun_mk (st := s_of_degree) l_of_degree c_of_degree k_of_degree).binds (ps := ["boxes", "degree"]) fun _ _ _ _ _ _ us hl => match us, hl with | [_, _], _ => rfl,
    a_exponents_to := f_exponents_to,
    d_exponents_to := _,
    m_exponents_to := PySem.W.mg_of X G a_exponents_to,
    F_exponents_to := fun_mk (st := s_exponents_to) l_exponents_to c_exponents_to k_exponents_to,
    b_exponents_to := (fun_mk (st := s_exponents_to) l_exponents_to c_exponents_to k_exponents_to).binds (ps := ["boxes", "degree"]) fun _ _ _ _ _ _ us hl => match us, hl with | [_, _], _ => rfl,
    a_place_in_order := f_place_in_order,
    d_place_in_order := _,
    m_place_in_order := PySem.W.mg_of X G a_place_in_order,
    F_place_in_order := fun_mk (st := s_place_in_order) l_place_in_order c_place_in_order k_place_in_order,
    b_place_in_order := (fun_mk (st := s_place_in_order) l_place_in_order c_place_in_order k_place_in_order).binds (ps := ["exponents"]) fun _ _ _ _ _ _ us hl => match us, hl with | [_], _ => rfl,
    a_product_at := f_product_at,
    d_product_at := _,
    m_product_at := PySem.W.mg_of X G a_product_at,
    F_product_at := fun_mk (st := s_product_at) l_product_at c_product_at k_product_at,
    b_product_at := (fun_mk (st := s_product_at) l_product_at c_product_at k_product_at).binds (ps := ["exponents", "numbers"]) fun _ _ _ _ _ _ us hl => match us, hl with | [_, _], _ => rfl,
    a_term_text := f_term_text,
    d_term_text := _,
    m_term_text := PySem.W.mg_of X G a_term_text,
    F_term_text := fun_mk (st := s_term_text) l_term_text c_term_text k_term_text,
    b_term_text := (fun_mk (st := s_term_text) l_term_text c_term_text k_term_text).binds (ps := ["exponents", "number"]) fun _ _ _ _ _ _ us hl => match us, hl with | [_, _], _ => rfl,
    a_law_box := f_law_box,
    d_law_box := _,
    m_law_box := PySem.W.mg_of X G a_law_box,
    F_law_box := fun_mk (st := s_law_box) l_law_box c_law_box k_law_box,
    b_law_box := (fun_mk (st := s_law_box) l_law_box c_law_box k_law_box).binds (ps := ["_law_script", "_law_k"]) fun _ _ _ _ _ _ us hl => match us, hl with | [_, _], _ => rfl,
    a_law_take := f_law_take,
    d_law_take := _,
    m_law_take := PySem.W.mg_of X G a_law_take,
    F_law_take := fun_mk (st := s_law_take) l_law_take c_law_take k_law_take,
    b_law_take := (fun_mk (st := s_law_take) l_law_take c_law_take k_law_take).binds (ps := ["_law_box_here", "_law_many"]) fun _ _ _ _ _ _ us hl => match us, hl with | [_, _], _ => rfl,
    a_law_alike := f_law_alike,
    d_law_alike := _,
    m_law_alike := PySem.W.mg_of X G a_law_alike,
    F_law_alike := fun_mk (st := s_law_alike) l_law_alike c_law_alike k_law_alike,
    b_law_alike := (fun_mk (st := s_law_alike) l_law_alike c_law_alike k_law_alike).binds (ps := ["_law_found", "_law_due"]) fun _ _ _ _ _ _ us hl => match us, hl with | [_, _], _ => rfl,
    a_law_shared := f_law_shared,
    d_law_shared := _,
    m_law_shared := PySem.W.mg_of X G a_law_shared,
    F_law_shared := fun_mk (st := s_law_shared) l_law_shared c_law_shared k_law_shared,
    b_law_shared := (fun_mk (st := s_law_shared) l_law_shared c_law_shared k_law_shared).binds (ps := ["_law_one", "_law_other"]) fun _ _ _ _ _ _ us hl => match us, hl with | [_, _], _ => rfl,
    a_law_lowest := f_law_lowest,
    d_law_lowest := _,
    m_law_lowest := PySem.W.mg_of X G a_law_lowest,
    F_law_lowest := fun_mk (st := s_law_lowest) l_law_lowest c_law_lowest k_law_lowest,
    b_law_lowest := (fun_mk (st := s_law_lowest) l_law_lowest c_law_lowest k_law_lowest).binds (ps := ["_law_upper", "_law_lower"]) fun _ _ _ _ _ _ us hl => match us, hl with | [_, _], _ => rfl,
    a_law_plus := f_law_plus,
    d_law_plus := _,
    m_law_plus := PySem.W.mg_of X G a_law_plus,
    F_law_plus := fun_mk (st := s_law_plus) l_law_plus c_law_plus k_law_plus,
    b_law_plus := (fun_mk (st := s_law_plus) l_law_plus c_law_plus k_law_plus).binds (ps := ["_law_one", "_law_other"]) fun _ _ _ _ _ _ us hl => match us, hl with | [_, _], _ => rfl,
    a_law_by := f_law_by,
    d_law_by := _,
    m_law_by := PySem.W.mg_of X G a_law_by,
    F_law_by := fun_mk (st := s_law_by) l_law_by c_law_by k_law_by,
    b_law_by := (fun_mk (st := s_law_by) l_law_by c_law_by k_law_by).binds (ps := ["_law_one", "_law_other"]) fun _ _ _ _ _ _ us hl => match us, hl with | [_, _], _ => rfl,
    a_law_number := f_law_number,
    d_law_number := _,
    m_law_number := PySem.W.mg_of X G a_law_number,
    F_law_number := fun_mk (st := s_law_number) l_law_number c_law_number k_law_number,
    b_law_number := (fun_mk (st := s_law_number) l_law_number c_law_number k_law_number).binds (ps := ["_law_box_here"]) fun _ _ _ _ _ _ us hl => match us, hl with | [_], _ => rfl,
    a_law_exponents := f_law_exponents,
    d_law_exponents := _,
    m_law_exponents := PySem.W.mg_of X G a_law_exponents,
    F_law_exponents := fun_mk (st := s_law_exponents) l_law_exponents c_law_exponents k_law_exponents,
    b_law_exponents := (fun_mk (st := s_law_exponents) l_law_exponents c_law_exponents k_law_exponents).binds (ps := ["_law_boxes", "_law_degree"]) fun _ _ _ _ _ _ us hl => match us, hl with | [_, _], _ => rfl,
    a_law_power := f_law_power,
    d_law_power := _,
    m_law_power := PySem.W.mg_of X G a_law_power,
    F_law_power := fun_mk (st := s_law_power) l_law_power c_law_power k_law_power,
    b_law_power := (fun_mk (st := s_law_power) l_law_power c_law_power k_law_power).binds (ps := ["_law_exponents_here", "_law_numbers"]) fun _ _ _ _ _ _ us hl => match us, hl with | [_, _], _ => rfl,
    a_law_value := f_law_value,
    d_law_value := _,
    m_law_value := PySem.W.mg_of X G a_law_value,
    F_law_value := fun_mk (st := s_law_value) l_law_value c_law_value k_law_value,
    b_law_value := (fun_mk (st := s_law_value) l_law_value c_law_value k_law_value).binds (ps := ["_law_own", "_law_numbers"]) fun _ _ _ _ _ _ us hl => match us, hl with | [_, _], _ => rfl,
    a_law_poly := f_law_poly,
    d_law_poly := _,
    m_law_poly := PySem.W.mg_of X G a_law_poly,
    F_law_poly := fun_mk (st := s_law_poly) l_law_poly c_law_poly k_law_poly,
    b_law_poly := (fun_mk (st := s_law_poly) l_law_poly c_law_poly k_law_poly).binds (ps := ["_law_box_here", "_law_boxes", "_law_degree"]) fun _ _ _ _ _ _ us hl => match us, hl with | [_, _, _], _ => rfl,
    a_law_gathered := f_law_gathered,
    d_law_gathered := _,
    m_law_gathered := PySem.W.mg_of X G a_law_gathered,
    F_law_gathered := fun_mk (st := s_law_gathered) l_law_gathered c_law_gathered k_law_gathered,
    b_law_gathered := (fun_mk (st := s_law_gathered) l_law_gathered c_law_gathered k_law_gathered).binds (ps := ["_law_own"]) fun _ _ _ _ _ _ us hl => match us, hl with | [_], _ => rfl,
    a_law_product := f_law_product,
    d_law_product := _,
    m_law_product := PySem.W.mg_of X G a_law_product,
    F_law_product := fun_mk (st := s_law_product) l_law_product c_law_product k_law_product,
    b_law_product := (fun_mk (st := s_law_product) l_law_product c_law_product k_law_product).binds (ps := ["_law_one", "_law_other"]) fun _ _ _ _ _ _ us hl => match us, hl with | [_, _], _ => rfl,
    a_law_is := f_law_is,
    d_law_is := _,
    m_law_is := PySem.W.mg_of X G a_law_is,
    F_law_is := fun_mk (st := s_law_is) l_law_is c_law_is k_law_is,
    b_law_is := (fun_mk (st := s_law_is) l_law_is c_law_is k_law_is).binds (ps := ["_law_poly_here", "_law_boxes", "_law_own"]) fun _ _ _ _ _ _ us hl => match us, hl with | [_, _, _], _ => rfl,
    a_law_contrary := f_law_contrary,
    d_law_contrary := _,
    m_law_contrary := PySem.W.mg_of X G a_law_contrary,
    F_law_contrary := fun_mk (st := s_law_contrary) l_law_contrary c_law_contrary k_law_contrary,
    b_law_contrary := (fun_mk (st := s_law_contrary) l_law_contrary c_law_contrary k_law_contrary).binds (ps := ["_law_box_here", "_law_own"]) fun _ _ _ _ _ _ us hl => match us, hl with | [_, _], _ => rfl,
    a_law_equals := f_law_equals,
    d_law_equals := _,
    m_law_equals := PySem.W.mg_of X G a_law_equals,
    F_law_equals := fun_mk (st := s_law_equals) l_law_equals c_law_equals k_law_equals,
    b_law_equals := (fun_mk (st := s_law_equals) l_law_equals c_law_equals k_law_equals).binds (ps := ["_law_box_here", "_law_boxes", "_law_own", "_law_poly_here"]) fun _ _ _ _ _ _ us hl => match us, hl with | [_, _, _, _], _ => rfl,
    a_law_right := f_law_right,
    d_law_right := _,
    m_law_right := PySem.W.mg_of X G a_law_right,
    F_law_right := fun_mk (st := s_law_right) l_law_right c_law_right k_law_right,
    b_law_right := (fun_mk (st := s_law_right) l_law_right c_law_right k_law_right).binds (ps := ["_law_box_here", "_law_boxes", "_law_one", "_law_other"]) fun _ _ _ _ _ _ us hl => match us, hl with | [_, _, _, _], _ => rfl,
    a_law_long := f_law_long,
    d_law_long := _,
    m_law_long := PySem.W.mg_of X G a_law_long,
    F_law_long := fun_mk (st := s_law_long) l_law_long c_law_long k_law_long,
    b_law_long := (fun_mk (st := s_law_long) l_law_long c_law_long k_law_long).binds (ps := ["_law_box_here", "_law_some"]) fun _ _ _ _ _ _ us hl => match us, hl with | [_, _], _ => rfl,
    a_law := f_law,
    d_law := _,
    m_law := PySem.W.mg_of X G a_law,
    F_law := fun_mk (st := s_law) l_law c_law k_law,
    b_law := (fun_mk (st := s_law) l_law c_law k_law).binds (ps := ["_law_script"]) fun _ _ _ _ _ _ us hl => match us, hl with | [_], _ => rfl,
    a_Poly_init := f_Poly_init,
    d_Poly_init := _,
    mt_Poly_init := ⟨a_Poly_init, i_Poly_init, k_Poly_init⟩,
    mk_Poly := ⟨mi_Poly, a_Poly_init, i_Poly_init, kc_Poly⟩,
    F_Poly_init := (FunD.mk ⟨_, _, _, _, _, _, _, _, _, _, rfl, l_Poly_init, c_Poly_init, .inr ⟨by simp, _, _, [.none], _, rfl, t_Poly_init, rfl, (.cons rfl .nil)⟩, .inl rfl⟩ k_Poly_init : FunD K "__init__" "Poly.__init__" (defArgs s_Poly_init) (defBody s_Poly_init) (defScope s_Poly_init) [.non] [] f_Poly_init _),
    b_Poly_init := binds_all ((FunD.mk ⟨_, _, _, _, _, _, _, _, _, _, rfl, l_Poly_init, c_Poly_init, .inr ⟨by simp, _, _, [.none], _, rfl, t_Poly_init, rfl, (.cons rfl .nil)⟩, .inl rfl⟩ k_Poly_init : FunD K "__init__" "Poly.__init__" (defArgs s_Poly_init) (defBody s_Poly_init) (defScope s_Poly_init) [.non] [] f_Poly_init _).binds1 (ps := ["self", "boxes", "terms"]) 3 1 (by simp) rfl fun _ _ _ _ _ _ _ us its hl hi => match us, hl, its, hi with | [_, _, _], _, [_], _ => ⟨_, rfl, rfl⟩),
    bv_Poly_init1 := (FunD.mk ⟨_, _, _, _, _, _, _, _, _, _, rfl, l_Poly_init, c_Poly_init, .inr ⟨by simp, _, _, [.none], _, rfl, t_Poly_init, rfl, (.cons rfl .nil)⟩, .inl rfl⟩ k_Poly_init : FunD K "__init__" "Poly.__init__" (defArgs s_Poly_init) (defBody s_Poly_init) (defScope s_Poly_init) [.non] [] f_Poly_init _).binds1 (ps := ["self", "boxes", "terms"]) 2 0 (by simp) rfl fun _ _ _ _ _ _ _ us its hl hi => match us, hl, its, hi with | [_, _], _, [_], _ => ⟨_, rfl, rfl⟩,
    a_Poly_eq := f_Poly_eq,
    d_Poly_eq := _,
    mt_Poly_eq := ⟨a_Poly_eq, i_Poly_eq, k_Poly_eq⟩,
    F_Poly_eq := fun_mk (st := s_Poly_eq) l_Poly_eq c_Poly_eq k_Poly_eq,
    b_Poly_eq := (fun_mk (st := s_Poly_eq) l_Poly_eq c_Poly_eq k_Poly_eq).binds (ps := ["self", "other"]) fun _ _ _ _ _ _ us hl => match us, hl with | [_, _], _ => rfl,
    a_Poly_len := f_Poly_len,
    d_Poly_len := _,
    mt_Poly_len := ⟨a_Poly_len, i_Poly_len, k_Poly_len⟩,
    F_Poly_len := fun_mk (st := s_Poly_len) l_Poly_len c_Poly_len k_Poly_len,
    b_Poly_len := (fun_mk (st := s_Poly_len) l_Poly_len c_Poly_len k_Poly_len).binds (ps := ["self"]) fun _ _ _ _ _ _ us hl => match us, hl with | [_], _ => rfl,
    a_Poly_str := f_Poly_str,
    d_Poly_str := _,
    mt_Poly_str := ⟨a_Poly_str, i_Poly_str, k_Poly_str⟩,
    F_Poly_str := fun_mk (st := s_Poly_str) l_Poly_str c_Poly_str k_Poly_str,
    b_Poly_str := (fun_mk (st := s_Poly_str) l_Poly_str c_Poly_str k_Poly_str).binds (ps := ["self"]) fun _ _ _ _ _ _ us hl => match us, hl with | [_], _ => rfl,
    a_Poly_repr := f_Poly_repr,
    d_Poly_repr := _,
    mt_Poly_repr := ⟨a_Poly_repr, i_Poly_repr, k_Poly_repr⟩,
    F_Poly_repr := fun_mk (st := s_Poly_repr) l_Poly_repr c_Poly_repr k_Poly_repr,
    b_Poly_repr := (fun_mk (st := s_Poly_repr) l_Poly_repr c_Poly_repr k_Poly_repr).binds (ps := ["self"]) fun _ _ _ _ _ _ us hl => match us, hl with | [_], _ => rfl,
    a_Poly_terms := f_Poly_terms,
    d_Poly_terms := _,
    mt_Poly_terms := ⟨a_Poly_terms, i_Poly_terms, k_Poly_terms⟩,
    F_Poly_terms := fun_mk (st := s_Poly_terms) l_Poly_terms c_Poly_terms k_Poly_terms,
    b_Poly_terms := (fun_mk (st := s_Poly_terms) l_Poly_terms c_Poly_terms k_Poly_terms).binds (ps := ["self"]) fun _ _ _ _ _ _ us hl => match us, hl with | [_], _ => rfl,
    a_Poly_degree := f_Poly_degree,
    d_Poly_degree := _,
    mt_Poly_degree := ⟨a_Poly_degree, i_Poly_degree, k_Poly_degree⟩,
    F_Poly_degree := fun_mk (st := s_Poly_degree) l_Poly_degree c_Poly_degree k_Poly_degree,
    b_Poly_degree := (fun_mk (st := s_Poly_degree) l_Poly_degree c_Poly_degree k_Poly_degree).binds (ps := ["self"]) fun _ _ _ _ _ _ us hl => match us, hl with | [_], _ => rfl,
    a_Poly_worth := f_Poly_worth,
    d_Poly_worth := _,
    mt_Poly_worth := ⟨a_Poly_worth, i_Poly_worth, k_Poly_worth⟩,
    F_Poly_worth := fun_mk (st := s_Poly_worth) l_Poly_worth c_Poly_worth k_Poly_worth,
    b_Poly_worth := (fun_mk (st := s_Poly_worth) l_Poly_worth c_Poly_worth k_Poly_worth).binds (ps := ["self", "numbers"]) fun _ _ _ _ _ _ us hl => match us, hl with | [_, _], _ => rfl,
    a_Poly_plus := f_Poly_plus,
    d_Poly_plus := _,
    mt_Poly_plus := ⟨a_Poly_plus, i_Poly_plus, k_Poly_plus⟩,
    F_Poly_plus := fun_mk (st := s_Poly_plus) l_Poly_plus c_Poly_plus k_Poly_plus,
    b_Poly_plus := (fun_mk (st := s_Poly_plus) l_Poly_plus c_Poly_plus k_Poly_plus).binds (ps := ["self", "other"]) fun _ _ _ _ _ _ us hl => match us, hl with | [_, _], _ => rfl,
    a_Poly_by := f_Poly_by,
    d_Poly_by := _,
    mt_Poly_by := ⟨a_Poly_by, i_Poly_by, k_Poly_by⟩,
    F_Poly_by := fun_mk (st := s_Poly_by) l_Poly_by c_Poly_by k_Poly_by,
    b_Poly_by := (fun_mk (st := s_Poly_by) l_Poly_by c_Poly_by k_Poly_by).binds (ps := ["self", "other"]) fun _ _ _ _ _ _ us hl => match us, hl with | [_, _], _ => rfl,
    a_Poly_scaled := f_Poly_scaled,
    d_Poly_scaled := _,
    mt_Poly_scaled := ⟨a_Poly_scaled, i_Poly_scaled, k_Poly_scaled⟩,
    F_Poly_scaled := fun_mk (st := s_Poly_scaled) l_Poly_scaled c_Poly_scaled k_Poly_scaled,
    b_Poly_scaled := (fun_mk (st := s_Poly_scaled) l_Poly_scaled c_Poly_scaled k_Poly_scaled).binds (ps := ["self", "number"]) fun _ _ _ _ _ _ us hl => match us, hl with | [_, _], _ => rfl,
    z_ZeroDivisionError := PySem.W.mg_none_of X G zb_ZeroDivisionError,
    z_abs := PySem.W.mg_none_of X G zb_abs,
    z_bool := PySem.W.mg_none_of X G zb_bool,
    z_enumerate := PySem.W.mg_none_of X G zb_enumerate,
    z_int := PySem.W.mg_none_of X G zb_int,
    z_isinstance := PySem.W.mg_none_of X G zb_isinstance,
    z_len := PySem.W.mg_none_of X G zb_len,
    z_list := PySem.W.mg_none_of X G zb_list,
    z_max := PySem.W.mg_none_of X G zb_max,
    z_min := PySem.W.mg_none_of X G zb_min,
    z_range := PySem.W.mg_none_of X G zb_range,
    z_repr := PySem.W.mg_none_of X G zb_repr,
    z_reversed := PySem.W.mg_none_of X G zb_reversed,
    z_sorted := PySem.W.mg_none_of X G zb_sorted,
    z_str := PySem.W.mg_none_of X G zb_str,
    z_sum := PySem.W.mg_none_of X G zb_sum,
    z_tuple := PySem.W.mg_none_of X G zb_tuple,
    z_zip := PySem.W.mg_none_of X G zb_zip,
    cc_law_exponents := cc_law_exponents,
    pt_law_exponents := pt_law_exponents,
    co_law_exponents := rfl,
    tb_law_exponents := TB (cc_law_exponents, pt_law_exponents) (by simp),
    cc_law_gathered := cc_law_gathered,
    pt_law_gathered := pt_law_gathered,
    co_law_gathered := rfl,
    tb_law_gathered := TB (cc_law_gathered, pt_law_gathered) (by simp),
    cc_Poly_init := cc_Poly_init,
    pt_Poly_init := pt_Poly_init,
    co_Poly_init := rfl,
    tb_Poly_init := TB (cc_Poly_init, pt_Poly_init) (by simp),
    pn_law_exponents_law_gathered := pn_law_exponents_law_gathered,
    pn_law_exponents_Poly_init := pn_law_exponents_Poly_init,
    pn_law_gathered_Poly_init := pn_law_gathered_Poly_init }, rfl, rfl, rfl⟩⟩
  · simp only [List.forall_mem_cons, List.not_mem_nil, false_implies, implies_true, and_true]
    exact ⟨hq_law_exponents, hq_law_gathered, hq_Poly_init⟩
  · simp only [List.forall_mem_cons, List.not_mem_nil, false_implies, implies_true, and_true]
    exact ⟨nl_law_exponents, nl_law_gathered, nl_Poly_init⟩
  · simp only [List.forall_mem_cons, List.not_mem_nil, false_implies, implies_true, and_true]
    exact ⟨PySem.W.codeHd_of_K X ch_law_exponents, PySem.W.codeHd_of_K X ch_law_gathered, PySem.W.codeHd_of_K X ch_Poly_init⟩
  · simp
  · rfl
end Lw
namespace Lw
open PySem PySem.Spec PyProof.Rows L2 Bk
theorem walk {l : PySem.W.OpenLaw} {q : Program} {loose : List Str} {XP : (Str → Option Value) → Heap → Prop} {YP : World → Heap → Prop} {d : DefRec} {K : Params → PySem.W.Frag} (hn : l.most = some 63) (hdf : d.params.defaults = [])
    (hY : ∀ (w : World) (h : Heap), YP w h → (K w.params).In h)
    (F : ∀ (w : World) (mg : Str → Option Value) (fa : Addr) (h : Heap), YP w h → (K w.params).In h → h.Ns mainGlobals mg → mg d.name = some (.ref fa) → LawAtG l w (K w.params) (L2.CX l.prog w) 33 63 "_law_script" mg fa h) :
    PySem.W.WalkO q loose XP YP l.row.toRowW d [] (fun f vs => PySem.call f vs) :=
  walk_ofGT (n := 63) (k := 33) (x := "_law_script") (CX := fun w => L2.CX l.prog w) hn (by decide) hdf ⟨rfl, by decide, by decide⟩ hY F fun _ _ _ _ _ z => cx_false z
theorem fin {l : PySem.W.OpenLaw} {w : World} {K : PySem.W.Frag} {mg : Str → Option Value} {fa f : Addr} {h : Heap} (hmg : mg "law" = some (.ref fa))
    (z : ∃ (dl : FuncData) (cs : List (Addr × Addr)) (tb : List (Addr × Str)), (∀ p ∈ cs, h.get? p.2 = some { cls := .none, data := .fields #[] }) ∧ (∀ p ∈ cs, K.lookup p.2 = none) ∧ (∀ p ∈ cs, PySem.W.CodeHd h p.1 p.2) ∧ (∀ p ∈ tb, ∃ q ∈ cs, q.2 = p.1) ∧ (∀ (s : Shared) (v : Value), BindsTo s dl ⟨[v], []⟩ [("_law_script", v)]) ∧ ∀ base : Heap, (∀ p ∈ cs, LamX.TabB base mg p.1 p.2) → ∃ T : Txt K mg base, T.a_law = f ∧ T.d_law = dl ∧ tabs T = tb) :
    LawAtG l w K (L2.CX l.prog w) 33 63 "_law_script" mg fa h := by
  obtain ⟨dl, cs, tb, h1, h2, h3, h4, h5, h6⟩ := z
  refine ⟨dl, cs, spLawT tb K, h1, h2, h3, h5, fun H a ns hl ht hS => spLawT_of (fun p hp => ?_) hS hl, fun base _ _ TB => ?_⟩
  · obtain ⟨q, hq, e⟩ := h4 p hp
    exact .nil (by rw [← e]; exact ht q hq)
  · obtain ⟨T, e1, e2, e3⟩ := h6 base TB
    have e := hmg.symm.trans T.m_law
    cases e
    rw [← e2, ← e3]
    exact ok_law T
end Lw
open PySem PySem.W PyProof.Rows
set_option maxRecDepth 100000 in
set_option maxHeartbeats 0 in
theorem PySem.Challenge.cw_boughkept_k03_polynomials_reckoned_holds : PySem.Challenge.rw_boughkept_k03_polynomials_reckoned.Holds := by
  w_on; o_law; k_head; (case hw => w_witness2)
  k_fill
  refine Lw.walk (l := PySem.Challenge.rw_boughkept_k03_polynomials_reckoned) rfl rfl (fun w h Y => PySem.W.km_in_of Y) ?F
  case F =>
    intro w mg fa h Y KX G hmg
    refine' Lw.fin hmg (Lw.mk_txt KX G ?ac_Nought ?xl_Nought ?xe_Nought ?xt_Nought ?xk_Nought ?xi_Nought ?xs_Nought ?g1_Nought ?g2_Nought ?g3_Nought ?g4_Nought ?g5_Nought ?g6_Nought ?g7_Nought ?iI_Nought ?tI_Nought ?lI_Nought ?cI_Nought ?kI_Nought ?ac_Poly ?pg_Poly ?hd_Poly ?po_Poly ?sa_Poly ?nf_Poly_boxes ?nf_Poly_kept ?mi_Poly ?kc_Poly ?vb_ZeroDivisionError ?qnl_Poly ?qnt_Poly ?qni_Poly ?qha_Poly ?qhn_Poly ?qht_Poly ?qhm_Poly ?qci_Poly ?qty_Poly ?a_common_part ?l_common_part ?c_common_part ?k_common_part ?a_fraction_of ?l_fraction_of ?c_fraction_of ?k_fraction_of ?t_fraction_of ?a_added ?l_added ?c_added ?k_added ?a_multiplied ?l_multiplied ?c_multiplied ?k_multiplied ?a_show_fraction ?l_show_fraction ?c_show_fraction ?k_show_fraction ?a_of_degree ?l_of_degree ?c_of_degree ?k_of_degree ?a_exponents_to ?l_exponents_to ?c_exponents_to ?k_exponents_to ?a_place_in_order ?l_place_in_order ?c_place_in_order ?k_place_in_order ?a_product_at ?l_product_at ?c_product_at ?k_product_at ?a_term_text ?l_term_text ?c_term_text ?k_term_text ?a_law_box ?l_law_box ?c_law_box ?k_law_box ?a_law_take ?l_law_take ?c_law_take ?k_law_take ?a_law_alike ?l_law_alike ?c_law_alike ?k_law_alike ?a_law_shared ?l_law_shared ?c_law_shared ?k_law_shared ?a_law_lowest ?l_law_lowest ?c_law_lowest ?k_law_lowest ?a_law_plus ?l_law_plus ?c_law_plus ?k_law_plus ?a_law_by ?l_law_by ?c_law_by ?k_law_by ?a_law_number ?l_law_number ?c_law_number ?k_law_number ?a_law_exponents ?l_law_exponents ?c_law_exponents ?k_law_exponents ?a_law_power ?l_law_power ?c_law_power ?k_law_power ?a_law_value ?l_law_value ?c_law_value ?k_law_value ?a_law_poly ?l_law_poly ?c_law_poly ?k_law_poly ?a_law_gathered ?l_law_gathered ?c_law_gathered ?k_law_gathered ?a_law_product ?l_law_product ?c_law_product ?k_law_product ?a_law_is ?l_law_is ?c_law_is ?k_law_is ?a_law_contrary ?l_law_contrary ?c_law_contrary ?k_law_contrary ?a_law_equals ?l_law_equals ?c_law_equals ?k_law_equals ?a_law_right ?l_law_right ?c_law_right ?k_law_right ?a_law_long ?l_law_long ?c_law_long ?k_law_long ?a_law ?l_law ?c_law ?k_law ?a_Poly_init ?i_Poly_init ?l_Poly_init ?c_Poly_init ?k_Poly_init ?t_Poly_init ?a_Poly_eq ?i_Poly_eq ?l_Poly_eq ?c_Poly_eq ?k_Poly_eq ?a_Poly_len ?i_Poly_len ?l_Poly_len ?c_Poly_len ?k_Poly_len ?a_Poly_str ?i_Poly_str ?l_Poly_str ?c_Poly_str ?k_Poly_str ?a_Poly_repr ?i_Poly_repr ?l_Poly_repr ?c_Poly_repr ?k_Poly_repr ?a_Poly_terms ?i_Poly_terms ?l_Poly_terms ?c_Poly_terms ?k_Poly_terms ?a_Poly_degree ?i_Poly_degree ?l_Poly_degree ?c_Poly_degree ?k_Poly_degree ?a_Poly_worth ?i_Poly_worth ?l_Poly_worth ?c_Poly_worth ?k_Poly_worth ?a_Poly_plus ?i_Poly_plus ?l_Poly_plus ?c_Poly_plus ?k_Poly_plus ?a_Poly_by ?i_Poly_by ?l_Poly_by ?c_Poly_by ?k_Poly_by ?a_Poly_scaled ?i_Poly_scaled ?l_Poly_scaled ?c_Poly_scaled ?k_Poly_scaled ?zb_ZeroDivisionError ?zb_abs ?zb_bool ?zb_enumerate ?zb_int ?zb_isinstance ?zb_len ?zb_list ?zb_max ?zb_min ?zb_range ?zb_repr ?zb_reversed ?zb_sorted ?zb_str ?zb_sum ?zb_tuple ?zb_zip ?tt_law_exponents ?tt_law_gathered ?tt_Poly_init ?ch_law_exponents ?nl_law_exponents ?hq_law_exponents ?ch_law_gathered ?nl_law_gathered ?hq_law_gathered ?ch_Poly_init ?nl_Poly_init ?hq_Poly_init ?pn_law_exponents_law_gathered ?pn_law_exponents_Poly_init ?pn_law_gathered_Poly_init)
    (case ac_Nought => k_is)
    (case xl_Nought => k_is)
    (case xe_Nought => k_is)
    (case xt_Nought => k_is)
    (case xk_Nought => k_is)
    (case xi_Nought => k_is)
    (case xs_Nought => k_is)
    (case g1_Nought => k_is)
    (case g2_Nought => k_is)
    (case g3_Nought => k_is)
    (case g4_Nought => k_is)
    (case g5_Nought => k_is)
    (case g6_Nought => k_is)
    (case g7_Nought => k_is)
    (case iI_Nought => k_is)
    (case tI_Nought => k_is)
    (case lI_Nought => k_is)
    (case cI_Nought => k_is)
    (case kI_Nought => k_is)
    (case ac_Poly => k_is)
    (case pg_Poly => k_is)
    (case hd_Poly => k_is)
    (case po_Poly => k_is)
    (case sa_Poly => k_is)
    (case nf_Poly_boxes => k_is)
    (case nf_Poly_kept => k_is)
    (case mi_Poly => k_is)
    (case kc_Poly => k_is)
    (case vb_ZeroDivisionError => k_is)
    (case qnl_Poly => k_is)
    (case qnt_Poly => k_is)
    (case qni_Poly => k_is)
    (case qha_Poly => k_is)
    (case qhn_Poly => k_is)
    (case qht_Poly => k_is)
    (case qhm_Poly => k_is)
    (case qci_Poly => k_is)
    (case qty_Poly => k_is)
    (case a_common_part => k_is)
    (case l_common_part => k_is)
    (case c_common_part => k_is)
    (case k_common_part => k_is)
    (case a_fraction_of => k_is)
    (case l_fraction_of => k_is)
    (case c_fraction_of => k_is)
    (case k_fraction_of => k_is)
    (case t_fraction_of => k_is)
    (case a_added => k_is)
    (case l_added => k_is)
    (case c_added => k_is)
    (case k_added => k_is)
    (case a_multiplied => k_is)
    (case l_multiplied => k_is)
    (case c_multiplied => k_is)
    (case k_multiplied => k_is)
    (case a_show_fraction => k_is)
    (case l_show_fraction => k_is)
    (case c_show_fraction => k_is)
    (case k_show_fraction => k_is)
    (case a_of_degree => k_is)
    (case l_of_degree => k_is)
    (case c_of_degree => k_is)
    (case k_of_degree => k_is)
    (case a_exponents_to => k_is)
    (case l_exponents_to => k_is)
    (case c_exponents_to => k_is)
    (case k_exponents_to => k_is)
    (case a_place_in_order => k_is)
    (case l_place_in_order => k_is)
    (case c_place_in_order => k_is)
    (case k_place_in_order => k_is)
    (case a_product_at => k_is)
    (case l_product_at => k_is)
    (case c_product_at => k_is)
    (case k_product_at => k_is)
    (case a_term_text => k_is)
    (case l_term_text => k_is)
    (case c_term_text => k_is)
    (case k_term_text => k_is)
    (case a_law_box => k_is)
    (case l_law_box => k_is)
    (case c_law_box => k_is)
    (case k_law_box => k_is)
    (case a_law_take => k_is)
    (case l_law_take => k_is)
    (case c_law_take => k_is)
    (case k_law_take => k_is)
    (case a_law_alike => k_is)
    (case l_law_alike => k_is)
    (case c_law_alike => k_is)
    (case k_law_alike => k_is)
    (case a_law_shared => k_is)
    (case l_law_shared => k_is)
    (case c_law_shared => k_is)
    (case k_law_shared => k_is)
    (case a_law_lowest => k_is)
    (case l_law_lowest => k_is)
    (case c_law_lowest => k_is)
    (case k_law_lowest => k_is)
    (case a_law_plus => k_is)
    (case l_law_plus => k_is)
    (case c_law_plus => k_is)
    (case k_law_plus => k_is)
    (case a_law_by => k_is)
    (case l_law_by => k_is)
    (case c_law_by => k_is)
    (case k_law_by => k_is)
    (case a_law_number => k_is)
    (case l_law_number => k_is)
    (case c_law_number => k_is)
    (case k_law_number => k_is)
    (case a_law_exponents => k_is)
    (case l_law_exponents => k_is)
    (case c_law_exponents => k_is)
    (case k_law_exponents => k_is)
    (case a_law_power => k_is)
    (case l_law_power => k_is)
    (case c_law_power => k_is)
    (case k_law_power => k_is)
    (case a_law_value => k_is)
    (case l_law_value => k_is)
    (case c_law_value => k_is)
    (case k_law_value => k_is)
    (case a_law_poly => k_is)
    (case l_law_poly => k_is)
    (case c_law_poly => k_is)
    (case k_law_poly => k_is)
    (case a_law_gathered => k_is)
    (case l_law_gathered => k_is)
    (case c_law_gathered => k_is)
    (case k_law_gathered => k_is)
    (case a_law_product => k_is)
    (case l_law_product => k_is)
    (case c_law_product => k_is)
    (case k_law_product => k_is)
    (case a_law_is => k_is)
    (case l_law_is => k_is)
    (case c_law_is => k_is)
    (case k_law_is => k_is)
    (case a_law_contrary => k_is)
    (case l_law_contrary => k_is)
    (case c_law_contrary => k_is)
    (case k_law_contrary => k_is)
    (case a_law_equals => k_is)
    (case l_law_equals => k_is)
    (case c_law_equals => k_is)
    (case k_law_equals => k_is)
    (case a_law_right => k_is)
    (case l_law_right => k_is)
    (case c_law_right => k_is)
    (case k_law_right => k_is)
    (case a_law_long => k_is)
    (case l_law_long => k_is)
    (case c_law_long => k_is)
    (case k_law_long => k_is)
    (case a_law => k_is)
    (case l_law => k_is)
    (case c_law => k_is)
    (case k_law => k_is)
    (case a_Poly_init => k_is)
    (case i_Poly_init => k_is)
    (case l_Poly_init => k_is)
    (case c_Poly_init => k_is)
    (case k_Poly_init => k_is)
    (case t_Poly_init => k_is)
    (case a_Poly_eq => k_is)
    (case i_Poly_eq => k_is)
    (case l_Poly_eq => k_is)
    (case c_Poly_eq => k_is)
    (case k_Poly_eq => k_is)
    (case a_Poly_len => k_is)
    (case i_Poly_len => k_is)
    (case l_Poly_len => k_is)
    (case c_Poly_len => k_is)
    (case k_Poly_len => k_is)
    (case a_Poly_str => k_is)
    (case i_Poly_str => k_is)
    (case l_Poly_str => k_is)
    (case c_Poly_str => k_is)
    (case k_Poly_str => k_is)
    (case a_Poly_repr => k_is)
    (case i_Poly_repr => k_is)
    (case l_Poly_repr => k_is)
    (case c_Poly_repr => k_is)
    (case k_Poly_repr => k_is)
    (case a_Poly_terms => k_is)
    (case i_Poly_terms => k_is)
    (case l_Poly_terms => k_is)
    (case c_Poly_terms => k_is)
    (case k_Poly_terms => k_is)
    (case a_Poly_degree => k_is)
    (case i_Poly_degree => k_is)
    (case l_Poly_degree => k_is)
    (case c_Poly_degree => k_is)
    (case k_Poly_degree => k_is)
    (case a_Poly_worth => k_is)
    (case i_Poly_worth => k_is)
    (case l_Poly_worth => k_is)
    (case c_Poly_worth => k_is)
    (case k_Poly_worth => k_is)
    (case a_Poly_plus => k_is)
    (case i_Poly_plus => k_is)
    (case l_Poly_plus => k_is)
    (case c_Poly_plus => k_is)
    (case k_Poly_plus => k_is)
    (case a_Poly_by => k_is)
    (case i_Poly_by => k_is)
    (case l_Poly_by => k_is)
    (case c_Poly_by => k_is)
    (case k_Poly_by => k_is)
    (case a_Poly_scaled => k_is)
    (case i_Poly_scaled => k_is)
    (case l_Poly_scaled => k_is)
    (case c_Poly_scaled => k_is)
    (case k_Poly_scaled => k_is)
    (case zb_ZeroDivisionError => k_is)
    (case zb_abs => k_is)
    (case zb_bool => k_is)
    (case zb_enumerate => k_is)
    (case zb_int => k_is)
    (case zb_isinstance => k_is)
    (case zb_len => k_is)
    (case zb_list => k_is)
    (case zb_max => k_is)
    (case zb_min => k_is)
    (case zb_range => k_is)
    (case zb_repr => k_is)
    (case zb_reversed => k_is)
    (case zb_sorted => k_is)
    (case zb_str => k_is)
    (case zb_sum => k_is)
    (case zb_tuple => k_is)
    (case zb_zip => k_is)
    (case tt_law_exponents => with_unfolding_all exact rfl)
    (case tt_law_gathered => with_unfolding_all exact rfl)
    (case tt_Poly_init => with_unfolding_all exact rfl)
    (case ch_law_exponents => kernel_rfl)
    (case nl_law_exponents => kernel_rfl)
    (case hq_law_exponents => exact PySem.W.km_tabs_of Y _ (by k_mem))
    (case ch_law_gathered => kernel_rfl)
    (case nl_law_gathered => kernel_rfl)
    (case hq_law_gathered => exact PySem.W.km_tabs_of Y _ (by k_mem))
    (case ch_Poly_init => kernel_rfl)
    (case nl_Poly_init => kernel_rfl)
    (case hq_Poly_init => exact PySem.W.km_tabs_of Y _ (by k_mem))
    (case pn_law_exponents_law_gathered => decide)
    (case pn_law_exponents_Poly_init => decide)
    (case pn_law_gathered_Poly_init => decide)
#print axioms PySem.Challenge.cw_boughkept_k03_polynomials_reckoned_holds
