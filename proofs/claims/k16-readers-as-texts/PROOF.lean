import PyProof.Rows.All
import Wide.All
import OpenK.AllK
import Wide.FinOn
import HandS.ForMost
import HandS.ForExc
import HandS.Wide
import HandS.IsInst
import HandS.ExcIs
import HandS.ExcInit
import HandS.Flow
import HandS.Zip
import HandS.TupAny
import HandS.TupLe
import HandS.ListItems
import HandS.Defaults
import HandS.Text
import HandS.SetKeys
import HandS.ExcField
import HandS.StrMore
import HandS.Walk
import HandS.Codes
import KE.KDictZip
import KE.KDictItemsList
import HandS.Iter
import KE.GoesMore
import HandS.TupMul
import HandS.More
import KE.KExcIs
import PyProof.StrOps2
import PyProof.FactsAll.tuple_2
import KE.GoesEnumKw
import HandS.Replace
import PyProof.ToksMono
import HandS.MakeKw
import HandS.Rev
import KE.KDictPairs
import KE.DataFind
import KE.GoesZip
import KE.KeyNested
import PyProof.ListStr
import HandS.TupLen
import HandS.Conv
import PyProof.DictMoreH
import KE.DataMinMax
import HandS.Deep
import PyProof.SumAny
import KE.IntTextLaws
import HandS.IntHex
import HandS.FStr
import HandS.ExcInitHot
import HandS.SuiteRaise
import PySem.Challenge.RW_boughkept_k16_readers_as_texts
set_option pp.maxSteps 1200
set_option Elab.async false
set_option linter.all false
set_option maxRecDepth 100000
set_option maxHeartbeats 4000000
set_option Elab.async false
set_option linter.all false
set_option maxRecDepth 100000
set_option maxHeartbeats 4000000
/-! Bk1: readings that compute by themselves, over the hand layer. -/
namespace Bk
open PySem PySem.Spec PyProof.Rows L2
/-! ### heaps: what is kept -/
/-- every tracked object stands as it stood -/
def Ex (H H' : Hp) : Prop := ∀ a o, H a = some o → H' a = some o
/-- .. but what stands at l -/
def But (l : Addr) (H H' : Hp) : Prop := ∀ a o, a ≠ l → H a = some o → H' a = some o
/-- the tuples stand -/
def Tk (H H' : Hp) : Prop := ∀ a xs, H a = some (.tup xs) → H' a = some (.tup xs)
theorem Ex.refl (H : Hp) : Ex H H := fun _ _ h => h
theorem Ex.trans {H H1 H2 : Hp} (a : Ex H H1) (b : Ex H1 H2) : Ex H H2 := fun x o h => b x o (a x o h)
theorem Ex.new {H : Hp} {p : Addr} {o : HO} (h : H p = none) : Ex H (upd H p o) := fun a u e => by
  rw [upd_ne (ne_of_none e h)]
  exact e
theorem Ex.at_new {H H' : Hp} {p : Addr} {o : HO} (x : Ex H H') (h : H p = none) : Ex H (upd H' p o) := fun a u e => by
  rw [upd_ne (ne_of_none e h)]
  exact x a u e
theorem Ex.free {H H' : Hp} {p : Addr} (e : Ex H H') (h : H' p = none) : H p = none := by
  cases q : H p with
  | none => rfl
  | some o => rw [e p o q] at h; cases h
theorem Ex.but {H H' : Hp} (l : Addr) (e : Ex H H') : But l H H' := fun a o _ h => e a o h
theorem Ex.of_but {H H' : Hp} {l : Addr} (e : But l H H') (h : H l = none) : Ex H H' := fun a o q => e a o (ne_of_none q h) q
theorem But.refl (l : Addr) (H : Hp) : But l H H := fun _ _ _ h => h
theorem But.trans {l : Addr} {H H1 H2 : Hp} (a : But l H H1) (b : But l H1 H2) : But l H H2 := fun x o n h => b x o n (a x o n h)
theorem But.upd {l : Addr} {H H' : Hp} {o : HO} (a : But l H H') : But l H (upd H' l o) := fun x u n h => by
  rw [upd_ne n]
  exact a x u n h
theorem But.get {l a : Addr} {H H' : Hp} {o u : HO} (b : But l H H') (hl : H l = some u) (h : H a = some o) (d : o ≠ u) : H' a = some o := b a o (ne_of h hl d) h
theorem Ex.tk {H H' : Hp} (e : Ex H H') : Tk H H' := fun a xs h => e a _ h
theorem But.tk {l : Addr} {H H' : Hp} {u : HO} (b : But l H H') (hl : H l = some u) (d : ∀ xs, HO.tup xs ≠ u) : Tk H H' := fun a xs h => b.get hl h (d xs)
theorem But.tkl {l : Addr} {H H' : Hp} {ys : List V} (b : But l H H') (hl : H l = some (.lst ys)) : Tk H H' := b.tk hl fun _ z => nomatch z
theorem Tk.refl (H : Hp) : Tk H H := fun _ _ h => h
theorem Tk.trans {H H1 H2 : Hp} (a : Tk H H1) (b : Tk H1 H2) : Tk H H2 := fun x o h => b x o (a x o h)
theorem sqL {K : PySem.W.Frag} {H : Hp} {a : Addr} {xs : List V} (h : H a = some (.lst xs)) : SqL K H a xs := .inl (.inl h)
theorem sqT {K : PySem.W.Frag} {H : Hp} {a : Addr} {xs : List V} (h : H a = some (.tup xs)) : SqT K H a xs := .inl (.inl h)
theorem Ex.seqL {K : PySem.W.Frag} {H H' : Hp} {a : Addr} {xs : List V} (e : Ex H H') (h : SqL K H a xs) : SqL K H' a xs := by
  rcases h with (h | ⟨o, h⟩) | h
  · exact .inl (.inl (e _ _ h))
  · exact .inl (.inr ⟨o, e _ _ h⟩)
  · exact .inr h
theorem But.seqL {K : PySem.W.Frag} {l : Addr} {H H' : Hp} {a : Addr} {xs : List V} (e : But l H H') (n : a ≠ l) (h : SqL K H a xs) : SqL K H' a xs := by
  rcases h with (h | ⟨o, h⟩) | h
  · exact .inl (.inl (e _ _ n h))
  · exact .inl (.inr ⟨o, e _ _ n h⟩)
  · exact .inr h
/-! ### data: what a value stands for -/
inductive D where
  | non | bl (b : Bool) | int (i : Int) | str (s : Str) | tup (ds : List D) | lst (ds : List D)
mutual
def Rep (H : Hp) : D → V → Prop
  | .non, v => v = .non
  | .bl b, v => v = .bl b
  | .int i, v => v = .int i
  | .str s, v => v = .str s
  | .tup ds, v => ∃ a vs, v = .ref a ∧ H a = some (.tup vs) ∧ Reps H ds vs
  | .lst ds, v => ∃ a vs, v = .ref a ∧ H a = some (.lst vs) ∧ Reps H ds vs
def Reps (H : Hp) : List D → List V → Prop
  | [], vs => vs = []
  | d :: ds, vs => ∃ v r, vs = v :: r ∧ Rep H d v ∧ Reps H ds r
end
mutual
/-- tuples and flat things alone -/
def D.hard : D → Bool
  | .lst _ => false
  | .tup ds => D.hards ds
  | .non => true | .bl _ => true | .int _ => true | .str _ => true
def D.hards : List D → Bool
  | [] => true
  | d :: ds => d.hard && D.hards ds
end
mutual
def D.size : D → Nat
  | .tup ds => 1 + D.sizes ds
  | .lst ds => 1 + D.sizes ds
  | .non => 1 | .bl _ => 1 | .int _ => 1 | .str _ => 1
def D.sizes : List D → Nat
  | [] => 0
  | d :: ds => d.size + D.sizes ds
end
theorem D.size_pos (d : D) : 1 ≤ d.size := by cases d <;> simp only [D.size] <;> omega
mutual
theorem Rep.ex {H H' : Hp} (e : Ex H H') : ∀ {d : D} {v : V}, Rep H d v → Rep H' d v
  | .non, _, h => h
  | .bl _, _, h => h
  | .int _, _, h => h
  | .str _, _, h => h
  | .tup ds, _, h => by
    simp only [Rep] at h ⊢
    obtain ⟨a, vs, r, ha, hr⟩ := h
    exact ⟨a, vs, r, e _ _ ha, Reps.ex e hr⟩
  | .lst ds, _, h => by
    simp only [Rep] at h ⊢
    obtain ⟨a, vs, r, ha, hr⟩ := h
    exact ⟨a, vs, r, e _ _ ha, Reps.ex e hr⟩
theorem Reps.ex {H H' : Hp} (e : Ex H H') : ∀ {ds : List D} {vs : List V}, Reps H ds vs → Reps H' ds vs
  | [], _, h => h
  | d :: ds, _, h => by
    simp only [Reps] at h ⊢
    obtain ⟨v, r, x, h1, h2⟩ := h
    exact ⟨v, r, x, Rep.ex e h1, Reps.ex e h2⟩
end
mutual
theorem Rep.tk {H H' : Hp} (e : Tk H H') : ∀ {d : D} {v : V}, d.hard = true → Rep H d v → Rep H' d v
  | .non, _, _, h => h
  | .bl _, _, _, h => h
  | .int _, _, _, h => h
  | .str _, _, _, h => h
  | .lst _, _, z, _ => by simp [D.hard] at z
  | .tup ds, _, z, h => by
    simp only [D.hard] at z
    simp only [Rep] at h ⊢
    obtain ⟨a, vs, r, ha, hr⟩ := h
    exact ⟨a, vs, r, e _ _ ha, Reps.tk e z hr⟩
theorem Reps.tk {H H' : Hp} (e : Tk H H') : ∀ {ds : List D} {vs : List V}, D.hards ds = true → Reps H ds vs → Reps H' ds vs
  | [], _, _, h => h
  | d :: ds, _, z, h => by
    simp only [D.hards, Bool.and_eq_true] at z
    simp only [Reps] at h ⊢
    obtain ⟨v, r, x, h1, h2⟩ := h
    exact ⟨v, r, x, Rep.tk e z.1 h1, Reps.tk e z.2 h2⟩
end
theorem Reps.len {H : Hp} : ∀ {ds : List D} {vs : List V}, Reps H ds vs → vs.length = ds.length
  | [], _, h => by simp only [Reps] at h; rw [h]; rfl
  | d :: ds, _, h => by
    simp only [Reps] at h
    obtain ⟨v, r, x, _, h2⟩ := h
    rw [x, List.length_cons, List.length_cons, Reps.len h2]
theorem Reps.get {H : Hp} : ∀ {ds : List D} {vs : List V} {i : Nat} {v : V}, Reps H ds vs → vs[i]? = some v → ∃ d, ds[i]? = some d ∧ Rep H d v
  | [], _, i, v, h, e => by simp only [Reps] at h; rw [h] at e; simp at e
  | d :: ds, _, 0, v, h, e => by
    simp only [Reps] at h
    obtain ⟨u, r, x, h1, _⟩ := h
    rw [x] at e
    simp at e
    exact ⟨d, rfl, e ▸ h1⟩
  | d :: ds, _, i + 1, v, h, e => by
    simp only [Reps] at h
    obtain ⟨u, r, x, _, h2⟩ := h
    rw [x] at e
    obtain ⟨d', e', r'⟩ := Reps.get (i := i) h2 (by simpa using e)
    exact ⟨d', by simpa using e', r'⟩
theorem Reps.at {H : Hp} : ∀ {ds : List D} {vs : List V} {i : Nat} {d : D}, Reps H ds vs → ds[i]? = some d → ∃ v, vs[i]? = some v ∧ Rep H d v
  | [], _, i, d, h, e => by simp at e
  | d :: ds, _, 0, d', h, e => by
    simp only [Reps] at h
    obtain ⟨u, r, x, h1, _⟩ := h
    simp at e
    exact ⟨u, by rw [x]; rfl, e ▸ h1⟩
  | d :: ds, _, i + 1, d', h, e => by
    simp only [Reps] at h
    obtain ⟨u, r, x, _, h2⟩ := h
    obtain ⟨v', e', r'⟩ := Reps.at (i := i) h2 (by simpa using e)
    exact ⟨v', by rw [x]; simpa using e', r'⟩
theorem Reps.append {H : Hp} : ∀ {ds es : List D} {vs ws : List V}, Reps H ds vs → Reps H es ws → Reps H (ds ++ es) (vs ++ ws)
  | [], _, _, _, h, g => by simp only [Reps] at h; rw [h]; exact g
  | d :: ds, es, _, ws, h, g => by
    simp only [Reps] at h
    obtain ⟨v, r, x, h1, h2⟩ := h
    rw [x]
    simp only [List.cons_append, Reps]
    exact ⟨v, r ++ ws, rfl, h1, Reps.append h2 g⟩
/-! ### weaker readings -/
section
variable {X : Cx}
theorem pe_imp {e : Expr} {t t' : TE} (h : PE X e t) (w : ∀ σ H Q, t' σ H Q → t σ H Q) : PE X e t' := ⟨fun pins s σ H Q I q => h.run pins s σ H Q I (w σ H Q q)⟩
theorem pi_or {tg e : Expr} {t t' : TI} (h : PI X tg e t) (h' : PI X tg e t') : PI X tg e (fun σ H R => t σ H R ∨ t' σ H R) := ⟨fun pins s σ H R I q => by
  rcases q with q | q
  · exact h.run pins s σ H R I q
  · exact h'.run pins s σ H R I q⟩
theorem pe_or {e : Expr} {t t' : TE} (h : PE X e t) (h' : PE X e t') : PE X e (fun σ H R => t σ H R ∨ t' σ H R) := ⟨fun pins s σ H R I q => by
  rcases q with q | q
  · exact h.run pins s σ H R I q
  · exact h'.run pins s σ H R I q⟩
/-- the name that stands in the i-th slot -/
def uV (i : Nat) : TE := fun σ H Q => match σ[i]? with
  | some (some v) => Q v H
  | _ => False
theorem uv (i : Nat) {x : Str} {pos : Pos} (hN : X.N[i]? = some x := by rfl) (hv : Vis X.env.scope x := by first | exact Or.inl rfl | exact Or.inr (Or.inl rfl) | exact Or.inr (Or.inr rfl))
    (hd : (x == ("__debug__" : Str)) = false := by decide) (hcd : (x == ("__classdict__" : Str)) = false := by decide) : PE X (.Name x pos) (uV i) :=
  pe_imp (pv i hN hv hd hcd) fun σ H Q h => by
    unfold uV at h
    split at h
    · exact ⟨_, by assumption, h⟩
    · exact h.elim
theorem g_var {σ : L2.St} {i : Nat} {v : V} {H : Hp} {Q : VK} (e : σ[i]? = some (some v)) (q : Q v H) : uV i σ H Q := by
  unfold uV
  rw [e]
  exact q
/-- a value's truth -/
def uTru (K : PySem.W.Frag) (x : V) (H : Hp) (Q : Bool → Hp → Prop) : Prop := match x with
  | .bl k => Q k H
  | .int i => Q (i != 0) H
  | .non => Q false H
  | .str y => y.length ≤ sizeLine ∧ Q ((y.length : Int) != 0) H
  | .ref p => ∃ k, TruV K (.ref p) H k ∧ Q k H
  | _ => False
theorem uTru_of {K : PySem.W.Frag} {x : V} {H : Hp} {Q : Bool → Hp → Prop} (h : uTru K x H Q) : ∃ k, TruV K x H k ∧ Q k H := by
  unfold uTru at h
  split at h
  · exact ⟨_, rfl, h⟩
  · exact ⟨_, rfl, h⟩
  · exact ⟨_, rfl, h⟩
  · exact ⟨_, ⟨h.1, rfl⟩, h.2⟩
  · exact h
  · exact h.elim
/-- a value as a test -/
def uT (K : PySem.W.Frag) (te : TE) : TT := fun σ H Q => te σ H fun x H1 => uTru K x H1 Q
theorem ut {e : Expr} {te : TE} (h : PE X e te) (he : ∀ whole, isTrue e X.env whole = (do let v ← whole; standAt e.pos; holding [v] (truthy v)) := by intro _; rfl) : PT X e (uT X.K te) := by
  refine ⟨fun pins s σ H Q I q => ?_⟩
  refine isTrue_plain (thn (h.run pins s σ H _ I q) fun v s1 z => ?_) (he _)
  obtain ⟨x, H1, I1, r1, q1⟩ := z
  exact tru_ok pins s1 σ H1 x v Q I1 r1 (uTru_of q1)
/-! ### operators -/
def uAdd (K : PySem.W.Frag) : R2 := fun x y H Q => match x, y with
  | .int i, .int j => Q (.int (i + j)) H
  | .str a, .str b => a.length + b.length ≤ sizeLine ∧ Q (.str (a ++ b)) H
  | .ref p, .ref q => rCat (.ref p) (.ref q) H Q ∨ rCatA K (.ref p) (.ref q) H Q
  | _, _ => False
theorem uo_add : OpR X (binaryOp .Add) (uAdd X.K) := by
  intro pins s σ H x y v u Q I rx ry h
  unfold uAdd at h
  split at h
  · exact op_add pins s σ H _ _ v u Q I rx ry ⟨_, _, rfl, rfl, h⟩
  · exact op_add_str pins s σ H _ _ v u Q I rx ry ⟨_, _, rfl, rfl, h⟩
  · rcases h with h | h
    · exact op_cat pins s σ H _ _ v u Q I rx ry h
    · exact op_catA pins s σ H _ _ v u Q I rx ry h
  · exact h.elim
/-- two ints in -/
def uI (C : Int → Int → Prop) (g : Int → Int → V) : R2 := fun x y H Q => match x, y with
  | .int i, .int j => C i j ∧ Q (g i j) H
  | _, _ => False
def uI0 (g : Int → Int → V) : R2 := fun x y H Q => match x, y with
  | .int i, .int j => Q (g i j) H
  | _, _ => False
theorem ui_of {f : Value → Value → Sem Value} {C : Int → Int → Prop} {g : Int → Int → V} (h : OpR X f (rI C g)) : OpR X f (uI C g) := by
  intro pins s σ H x y v u Q I rx ry q
  unfold uI at q
  split at q
  · exact h pins s σ H _ _ v u Q I rx ry ⟨_, _, rfl, rfl, q.1, q.2⟩
  · exact q.elim
theorem ui0_of {f : Value → Value → Sem Value} {g : Int → Int → V} (h : OpR X f (rI0 g)) : OpR X f (uI0 g) := by
  intro pins s σ H x y v u Q I rx ry q
  unfold uI0 at q
  split at q
  · exact h pins s σ H _ _ v u Q I rx ry ⟨_, _, rfl, rfl, q⟩
  · exact q.elim
abbrev uSub : R2 := uI0 fun i j => .int (i - j)
theorem uo_sub : OpR X (binaryOp .Sub) uSub := ui0_of op_sub
def CMm (i j : Int) : Prop := CMul i j ∨ CMulW i j
abbrev uMul : R2 := uI CMm fun i j => .int (i * j)
theorem uo_mul : OpR X (binaryOp .Mult) uMul := by
  refine ui_of (opI fun _ _ _ _ _ _ _ hc q => ?_)
  rcases hc with hc | hc
  · exact mul_int q hc.ok
  · exact mul_int q hc.ok
theorem mulL {i j : Int} (h : i.natAbs.log2 < 1000) (h2 : j.natAbs.log2 < 900000) : CMulW i j := by
  show _ < _
  omega
/-- // by anything but nought below 2 ^ 9000 -/
def CFd (_ j : Int) : Prop := j ≠ 0 ∧ j.natAbs.log2 < 9000
theorem op_fd : OpR X (binaryOp .FloorDiv) (rI CFd fun i j => .int (i.fdiv j)) := opI fun i j _ _ _ _ _ hc q => floordiv_int hc.1 q (.inl (PyProof.noPylong_of_log2 hc.2))
abbrev uFd : R2 := uI CFd fun i j => .int (i.fdiv j)
theorem uo_fd : OpR X (binaryOp .FloorDiv) uFd := ui_of op_fd
abbrev uMod : R2 := uI (fun _ j => j ≠ 0) fun i j => .int (i.fmod j)
theorem uo_mod : OpR X (binaryOp .Mod) uMod := ui_of op_modN
abbrev uPow : R2 := uI CPow fun i j => .int (i ^ j.toNat)
theorem uo_pow : OpR X (binaryOp .Pow) uPow := ui_of op_pow
abbrev uLt : R2 := uI0 fun i j => .bl (decide (i < j))
theorem uo_lt : OpR X (compareOp .Lt) uLt := ui0_of op_lt
abbrev uLe : R2 := uI0 fun i j => .bl (decide (i ≤ j))
theorem uo_le : OpR X (compareOp .LtE) uLe := ui0_of op_le
abbrev uGt : R2 := uI0 fun i j => .bl (decide (j < i))
theorem uo_gt : OpR X (compareOp .Gt) uGt := ui0_of op_gt
abbrev uGe : R2 := uI0 fun i j => .bl (decide (j ≤ i))
theorem uo_ge : OpR X (compareOp .GtE) uGe := ui0_of op_ge
def uNeg : V → Hp → VK → Prop := fun x H Q => match x with
  | .int i => Q (.int (-i)) H
  | _ => False
/-- x is None, x is not None (y is the None) -/
def uIsN : R2 := fun x y H Q => y = .non ∧ Q (.bl (decide (x = .non))) H
def uNotN : R2 := fun x y H Q => y = .non ∧ Q (.bl (!decide (x = .non))) H
theorem uo_isN : OpR X (compareOp .Is) uIsN := op_isN
theorem uo_notN : OpR X (compareOp .IsNot) uNotN := op_notN
/-! ### len, subscripts -/
def LenR (K : PySem.W.Frag) (H : Hp) (p : Addr) (n : Nat) : Prop := (∃ ys, (SqL K H p ys ∨ SqT K H p ys) ∧ n = ys.length) ∨ ∃ kvs, H p = some (.dK kvs) ∧ n = kvs.length
def uLen (K : PySem.W.Frag) : List V → Hp → VK → Prop := fun xs H Q => match xs with
  | [.str z] => z.length ≤ sizeLine ∧ Q (.int z.length) H
  | [.ref p] => ∃ n : Nat, LenR K H p n ∧ Q (.int n) H
  | _ => False
theorem uk_len : CallR X (.builtin "len") (uLen X.K) := by
  intro pins s σ H xs us Q I r h
  unfold uLen at h
  split at h
  · exact call_len_str pins s σ H _ us Q I r ⟨_, rfl, h.1, h.2⟩
  · obtain ⟨n, h, q⟩ := h
    rcases h with ⟨ys, h, e⟩ | ⟨kvs, h, e⟩
    · subst e
      exact call_len_seq pins s σ H _ us Q I r ⟨_, _, rfl, h, q⟩
    · subst e
      exact call_lenD pins s σ H _ us Q I r ⟨_, _, rfl, h, q⟩
  · exact h.elim
def uIx (K : PySem.W.Frag) : R2 := fun x y H Q => match x, y with
  | .ref p, .int i => ∃ xs v, (SqL K H p xs ∨ SqT K H p xs) ∧ atI xs i = some v ∧ Q v H
  | .str z, .int i => z.length ≤ sizeLine ∧ ∃ c, atI z.cps.toList i = some c ∧ Q (.str ⟨#[c]⟩) H
  | _, _ => False
theorem ux_seq : IxR X (uIx X.K) := by
  intro value slice pins s σ H x y v u Q I rx ry q hs
  unfold uIx at q
  split at q
  · obtain ⟨xs, w, hq, a, q⟩ := q
    refine ix_seq value slice pins s σ H _ _ v u Q I rx ry ?_ hs
    rcases hq with hq | hq
    · exact .inl ⟨_, xs, _, w, rfl, rfl, hq, a, q⟩
    · exact .inr (.inl ⟨_, xs, _, w, rfl, rfl, hq, a, q⟩)
  · obtain ⟨z, c, a, q⟩ := q
    exact ix_seq value slice pins s σ H _ _ v u Q I rx ry (.inr (.inr ⟨_, _, c, rfl, rfl, z, a, q⟩)) hs
  · exact q.elim
/-! ### what a for walks: a list or a tuple -/
def uSeq (K : PySem.W.Frag) (td : TE) : TI := fun σ H R => iList K td σ H R ∨ iTup K td σ H R ∨ iStr td σ H R
theorem ui_seq {tg e : Expr} {td : TE} (h : PE X e td) : PI X tg e (uSeq X.K td) := pi_or (pi_list h) (pi_or (pi_tup h) (pi_str h))
end
end Bk
set_option Elab.async false
set_option linter.all false
set_option maxRecDepth 100000
set_option maxHeartbeats 4000000
/-! Bk2: own errors over any built-in base, made by their own __init__. -/
namespace Bk
open PySem PySem.Spec PyProof.Rows L2
/-- what the written part says of an own error's class: newId, bmB of its built-in base -/
structure OexB (K : PySem.W.Frag) (C : Addr) (newId : String) (bmB : List Value) : Prop where
  cls : ∃ nm q N bs bm sn sub ab col dd k0 k1 k2 k3 k5, K.lookup C = some (excClassObj nm q C N bs bm true sn sub ab col dd k0 k1 k2 k3 k5 newId) ∧ ∀ Y : String, bm.contains (.type Y) = bmB.contains (.type Y)
  exC : PySem.W.subIn K (.ref C) (.type "BaseException") = some true
  tyC : PySem.W.typeIn K (.ref C) = some (.type "type")
  kC : PySem.W.keepIn K (.ref C) = true
section
variable {X : Cx} {pins : List (Addr × Obj)} {σ : L2.St} {H : Hp} {s : Shared} {a C : Addr} {B newId initId : String} {bmB : List Value}
/-- B.__init__(self, ..) over an error that has no dict as yet -/
theorem ginit_ok {A : Around} {E : Value → Shared → Prop} {us : List Value} {Q : Value → Shared → Prop} (F : ExcBaseFacts B newId initId bmB) (T : OexB X.K C newId bmB) (I : Inv X pins σ H s) (e : H a = some (exo a C none)) (hl : us.length ≤ sizeLine)
    (h : ∀ s', Inv X pins σ H s' → Q .none s') : wpAny (model X.prog X.w) A (call (.builtin initId) (.ref a :: us)) Q E s := by
  obtain ⟨nm, q, N, bs, bm, sn, sub, ab, col, dd, k0, k1, k2, k3, k5, hC, hT⟩ := T.cls
  obtain ⟨t1, ho⟩ := exo_at I.hok e
  obtain ⟨hp, g, d, t, os⟩ := s
  refine wpAny_call (PySem.HandSPX.init_base F hT (I.kIn _ _ hC) ho hl fun h' t2 k hx => ?_)
  have J := I.write (t' := t) (x := a) (e := a) (o := exo a C none) (by rw [e]; exact True.intro) (.inl rfl) k ⟨_, hx⟩ (exo_ok hx)
  have eu : upd H a (exo a C none) = H := funext fun b => by
    by_cases hb : b = a
    · rw [hb, upd_same, e]
    · rw [upd_ne hb]
  rw [eu] at J
  exact h _ J
/-- T.__init__(self, ..), T a built-in class of errors, or an own one that has it from there -/
def uXIk (K : PySem.W.Frag) (newId : String) (bmB : List Value) : List V → Hp → VK → Prop := fun vs H1 Q => match vs with
  | .ref a :: ws => ∃ C, ws.length ≤ 1000 ∧ OexB K C newId bmB ∧ H1 a = some (exo a C none) ∧ Q .non H1
  | _ => False
def uXI (K : PySem.W.Frag) (newId : String) (bmB : List Value) (ta : TA) : TE := fun σ H Q => ta σ H fun vs H1 => uXIk K newId bmB vs H1 Q
theorem uXI_end {F0 : ExcBaseFacts B newId initId bmB} {us : List Value} {vs : List V} {Q : VK} (I : Inv X pins σ H s) (r : Vals vs us)
    (h : uXIk X.K newId bmB vs H Q) :
    wpAny (model X.prog X.w) X.A (call (.builtin initId) us) (EP X pins σ Q) X.xe s := by
  unfold uXIk at h
  split at h
  · obtain ⟨C, hl, T, ea, q⟩ := h
    cases r with
    | @cons _ u0 _ ur ra rw' =>
      obtain rfl : u0 = Value.ref _ := ra
      have hlen : ur.length ≤ sizeLine := by
        rw [← Paired.length rw', sizeLine_eq]
        omega
      exact ginit_ok F0 T I ea hlen fun s' J => ⟨.non, H, J, rfl, q⟩
  · exact h.elim
variable {e : Expr} {es : List Expr} {ta : TA} {p1 p2 pos : Pos} {x : Str}
theorem pe_xinitB {T : String} {pl : Sem Bool} (F : ExcBaseFacts B newId initId bmB) (ty : typeOf (.type T) = pure (.type "type")) (ns : Manifest.isStub T = false) (hg : Gl X x) (hm : X.mg x = none) (hv : bootBuiltins x = some (.type T))
    (vV : PySem.W.findCls X.K (.type T) (.type "type") "__init__" = some (.val (.builtin initId))) (hh : PySem.W.handedIn (.builtin initId) = true) (ha : PA X (e :: es) ta) (hn : x ≠ "__name__" := by decide) (hd : (x == ("__debug__" : Str)) = false := by decide)
    (hc : eval (.Call (.Attribute (.Name x p1) "__init__" p2) (e :: es) [] pos) X.env = (do
      let ov ← eval (.Name x p1) X.env
      standAt p2.atName
      let (f, first) ← holding [ov] (getMethod ov "__init__" pl)
      callWith pos f first (backTo pos (starEach (e :: es) X.env)) (backToKw pos (keywordEach [] X.env))) := by rfl)
    (he : starEach (e :: es) X.env = (false, eval e X.env) :: starEach es X.env := by rfl) (hpl : (backTo pos (starEach es X.env)).any (·.1) = false := by rfl) :
    PE X (.Call (.Attribute (.Name x p1) "__init__" p2) (e :: es) [] pos) (uXI X.K newId bmB ta) := by
  refine ⟨fun pins s σ H Q I h => ?_⟩
  refine PySem.W.methodCall_KW (ld_blt I hg hm hv ?_ hn hd) hc
  obtain ⟨m, fr⟩ := I.fr
  refine PySem.W.method_type fr I.ok.mod.kin ty ns vV hh ?_
  show wpAny _ _ (callWith pos (Value.builtin initId) [] (backTo pos (starEach (e :: es) X.env)) []) _ _ _
  refine PyProof.Rows.callWith_method1 (thn (ha.run pos pins _ σ H _ (I.tok _) h) fun us s1 z => ?_) he hpl
  obtain ⟨vs, H1, I1, r1, q⟩ := z
  exact uXI_end (F0 := F) I1 r1 q
/-- how an own class hands out its base's __init__ -/
structure XiC (K : PySem.W.Frag) (D : Addr) (initId : String) : Prop where
  ga : PySem.W.specialIn K (.ref D) "__getattribute__" = some (some (.builtin "type.__getattribute__"))
  rd : PySem.W.readsIn K D (.type "type") = true
  at_ : PySem.W.findCls K (.ref D) (.type "type") "__init__" = some (.val (.builtin initId))
theorem pe_xinitO {D : Addr} {pl : Sem Bool} (F : ExcBaseFacts B newId initId bmB) (k : XiC X.K D initId) (hh : PySem.W.handedIn (.builtin initId) = true) (hg : Gl X x) (hm : X.mg x = some (.ref D)) (ha : PA X (e :: es) ta) (hd : (x == ("__debug__" : Str)) = false := by decide)
    (hc : eval (.Call (.Attribute (.Name x p1) "__init__" p2) (e :: es) [] pos) X.env = (do
      let ov ← eval (.Name x p1) X.env
      standAt p2.atName
      let (f, first) ← holding [ov] (getMethod ov "__init__" pl)
      callWith pos f first (backTo pos (starEach (e :: es) X.env)) (backToKw pos (keywordEach [] X.env))) := by rfl)
    (he : starEach (e :: es) X.env = (false, eval e X.env) :: starEach es X.env := by rfl) (hpl : (backTo pos (starEach es X.env)).any (·.1) = false := by rfl) :
    PE X (.Call (.Attribute (.Name x p1) "__init__" p2) (e :: es) [] pos) (uXI X.K newId bmB ta) := by
  refine ⟨fun pins s σ H Q I h => ?_⟩
  refine PySem.W.methodCall_KW (ld_glob I hg hm ?_ hd) hc
  refine PySem.W.method_cls I.kIn k.ga (PySem.W.cls_value I.kIn k.rd k.at_ hh ?_)
  show wpAny _ _ (callWith pos (Value.builtin initId) [] (backTo pos (starEach (e :: es) X.env)) []) _ _ _
  refine PyProof.Rows.callWith_method1 (thn (ha.run pos pins _ σ H _ (I.tok _) h) fun us s1 z => ?_) he hpl
  obtain ⟨vs, H1, I1, r1, q⟩ := z
  exact uXI_end (F0 := F) I1 r1 q
/-- the end of C(..) where no field was stored: the error is let go -/
theorem gone_end {H1 : Hp} {hp hp2 h2 : Heap} {g1 g2 : Array GenState} {d1 d2 : Drawn} {t1 t2 : Nat} {os1 os2 : OsState} {Q : XK} (T : Raises X (.ref C)) (I1 : Inv X pins σ H1 ⟨hp, g1, d1, t1, os1⟩)
    (ha : hp.objs.size ≤ a) (k : ∀ b o, hp.get? b = some o → hp2.get? b = some o) (un : Un (frs X.stack) [] (upd H1 a (exo a C none)) (upd H1 a (exo a C none)) hp2 h2) (hok : HOk X.prog X.w (upd H1 a (exo a C none)) h2) (ho : os2 = os1) (hb : AllBare g2)
    (q : Q (.ref C) none H1) : MkP X pins σ Q (.ref a) ⟨h2, g2, d2, t2, os2⟩ := by
  have ea : upd H1 a (exo a C none) a = some (exo a C none) := upd_same
  obtain ⟨t0, hoe⟩ := exo_at hok ea
  have hn : H1 a = none := I1.hok.fresh ha
  obtain ⟨G, g1', g2'⟩ := restrict h2 fun b => decide (b ≠ a)
  have gk : ∀ b, b ≠ a → G.get? b = h2.get? b := fun b hb => g1' b (decide_eq_true hb)
  have ge : G.get? a = none := g2' a (by simp)
  have nha : ∀ {b : Addr} {o : Obj}, hp.get? b = some o → b ≠ a := fun {b o} z => Nat.ne_of_lt (Nat.lt_of_lt_of_le (Heap.lt_size z) ha)
  have up : ∀ {b : Addr}, b ≠ a → H1 b = none → upd H1 a (exo a C none) b = none := fun {b} hb n => by rw [upd_ne hb]; exact n
  have U : Un (frs X.stack) [] H1 H1 hp G := {
    keep := fun b o z n hf hx => (gk b (nha z)).trans (un.keep b o (k b o z) (up (nha z) n) hf hx)
    slot := fun b o z n hf hx => by
      rw [gk b (nha z)]
      exact un.slot b o (k b o z) (up (nha z) n) hf hx
    free := fun b o z n hx => n
    there := fun b o z hx => by
      rw [gk b (nha z)]
      exact un.there b o (k b o z) hx
    tups := fun b xs z => z
    frzs := fun b o v z => z
    tbls := fun b ps z => ⟨#[], by rw [z]; simp⟩ }
  have hok3 : HOk X.prog X.w H1 G := fun b o z => by
    have hba : b ≠ a := ne_of_none z hn
    have z2 : upd H1 a (exo a C none) b = some o := by rw [upd_ne hba]; exact z
    refine (hok b o z2).stay (fun c v hc y => ?_) (fun c hc => ?_) (fun c xs hc => ?_)
    · have hca : c ≠ a := by
        rcases hc with hc | hc
        · rw [hc]; exact hba
        · exact at_ne ea hc exo_own
      rw [gk c hca]
      exact y
    · rw [upd_ne (at_ne ea hc exo_own)] at hc
      exact hc
    · rw [upd_ne (at_ne ea hc exo_tup)] at hc
      exact hc
  have J : Inv X pins σ H1 ⟨G, g2, d2, t2, os2⟩ := I1.call' (ch := []) ho U hok3 hb (fun b z => absurd z (by simp))
  refine ⟨a, _, _, ⟨G, g2, d2, t2, os2⟩, _, .ref C, none, rfl, J, fun b o z => ?_, ge, hoe, ⟨rfl, rfl⟩, rfl, rfl, hn, rfl, hb, T, q⟩
  by_cases hba : b = a
  · have z' : G.get? b = some o := z
    rw [hba, ge] at z'
    cases z'
  · exact (gk b hba).symm.trans z
/-- C(): its own __init__ keeps sp and stores nothing -/
def uMk0 (C : Addr) (sp : Sp) : L2.St → Hp → XK → Prop := fun σ H Q => ∀ a, H a = none → sp [.ref a] (upd H a (exo a C none)) (fun v H2 => v = .non ∧ H2 = upd H a (exo a C none) ∧ Q (.ref C) none H) (fun _ _ _ => False)
theorem pmk_x0 {CX : CXT} {p : Pos} {fI : Addr} {k : Nat} {fd : FuncData} {ps : List Str} {sp : Sp} (F : ExcBaseFacts B newId initId bmB) (T : OexB X.K C newId bmB) (iC : PySem.W.findIn X.K (.ref C) "__init__" = some (some (.ref fI))) (tI : PySem.W.typeIn X.K (.ref fI) = some (.type "function"))
    (F1 : FnOk X.prog X.w X.K X.mg X.base CX k fI fd ps sp) (hr : Room (k + 1) X.A) (hb : Binds X.K fd ps []) (hx : Passes CX X (fun _ _ _ => False)) (hm : X.mg x = some (.ref C)) (hg : Gl X x)
    (hdb : (x == ("__debug__" : Str)) = false := by decide) : PMk X (.Call (.Name x p) [] [] pos) (uMk0 C sp) := by
  intro pins s σ H Q I h
  obtain ⟨nm, q, N, bs, bm, sn, sub, ab, col, dd, k0, k1, k2, k3, k5, hC, hT⟩ := T.cls
  refine wpAny_Call_Name_kw (ld_glob I hg hm ?_ hdb)
  refine PySem.W.callWith_K0 I.kIn T.kC ?_
  obtain ⟨hp, g, dr, tk, os⟩ := s
  have hsz : hp.objs.size ≤ hp.objs.size + 1 := Nat.le_succ _
  have hn : H (hp.objs.size + 1) = none := I.hok.fresh hsz
  have hq := h (hp.objs.size + 1) hn
  have kk : ∀ b o, hp.get? b = some o → ((hp.push (PySem.W.kdv_tup [])).push (PySem.HandSPX.excO C hp.objs.size)).get? b = some o := fun b o e => Heap.get?_push_of_some _ (Heap.get?_push_of_some _ e)
  have hget : ((hp.push (PySem.W.kdv_tup [])).push (PySem.HandSPX.excO C hp.objs.size)).get? (hp.objs.size + 1) = some (PySem.HandSPX.excO C hp.objs.size) := by heap_get
  have I2 : Inv X pins σ (upd H (hp.objs.size + 1) (exo (hp.objs.size + 1) C none)) ⟨(hp.push (PySem.W.kdv_tup [])).push (PySem.HandSPX.excO C hp.objs.size), g, dr, tk, os⟩ :=
    I.laid (t' := tk) (a := hp.objs.size + 1) (o := exo (hp.objs.size + 1) C none) (h' := (hp.push (PySem.W.kdv_tup [])).push (PySem.HandSPX.excO C hp.objs.size)) kk hsz (exo_ok hget)
  have r2 : Vals [V.ref (hp.objs.size + 1)] [Value.ref (hp.objs.size + 1)] := .cons rfl .nil
  have hl : ([Value.ref (hp.objs.size + 1)] ++ []).length = ps.length := (F1.len _ _ _ _ hq).symm.symm
  refine wpAny_call (PySem.HandSPX.call_own F hT (I.kIn _ _ hC) (PySem.W.looks_findIn I.kIn iC) (fun self => PySem.W.bind_fn I.kIn self tI) (Nat.zero_le _)
    (codeAny_mono (F1.run _ X.stack _ _ ⟨[Value.ref (hp.objs.size + 1)], []⟩ [Value.ref (hp.objs.size + 1)] _ _ (fun _ _ _ => False) (hr.make C [] []) (I2.env0.make C [] []) (hb _ [Value.ref (hp.objs.size + 1)] I2.kIn hl) r2 hq) fun r s' hq' => ?_))
  cases r with
  | error er => exact hx pins σ _ _ er s' I2 hq'
  | ok fl =>
    cases fl with
    | ret u =>
      obtain ⟨v, H2, os2, bare2, un2, hok2, rv, ev, eH, q2⟩ := hq'
      subst ev
      subst eH
      obtain ⟨h2, g2, d2, t2, os'⟩ := s'
      exact ⟨rv, gone_end (raises_own T.exC T.tyC) I hsz kk un2 hok2 os2 bare2 q2⟩
    | next => exact False.elim hq'
    | brk => exact False.elim hq'
    | cont => exact False.elim hq'
end
end Bk
set_option Elab.async false
set_option linter.all false
set_option maxRecDepth 100000
set_option maxHeartbeats 4000000
/-! Bk3: list(zip(a, b)) of two tuples or two lists. -/
namespace Bk
open PySem PySem.Spec PyProof.Rows L2
section
variable {prog : Program} {w : World} {A : Around} {E : Value → Shared → Prop} {s : Shared}
/-- k: two tuples, else two lists: an iterator over xs at place i -/
def SIt (h : Heap) (k : Bool) (it l : Addr) (i : Nat) (xs : Array Value) : Prop := match k with
  | true => h.IsTupleIter it l i ∧ h.IsTuple l xs
  | false => h.IsListIter it l i ∧ h.IsList l xs
theorem SIt.keep {h h' : Heap} {k : Bool} {it l : Addr} {i : Nat} {xs : Array Value} (x : SIt h k it l i xs) (ki : ∀ o, h.get? it = some o → h'.get? it = some o) (kl : ∀ o, h.get? l = some o → h'.get? l = some o) : SIt h' k it l i xs := by
  cases k with
  | true =>
    obtain ⟨⟨o, e1, e2⟩, ⟨o', f1, f2⟩⟩ := x
    exact ⟨⟨o, ki o e1, e2⟩, ⟨o', kl o' f1, f2⟩⟩
  | false =>
    obtain ⟨⟨o, e1, e2⟩, ⟨o', f1, f2⟩⟩ := x
    exact ⟨⟨o, ki o e1, e2⟩, ⟨o', kl o' f1, f2⟩⟩
theorem SIt.step {h h' : Heap} {k : Bool} {it l : Addr} {i : Nat} {xs : Array Value} (x : SIt h k it l i xs) (hn : l ≠ it) (ki : match k with | true => h'.IsTupleIter it l (i + 1) | false => h'.IsListIter it l (i + 1)) (kl : Heap.SameBut it h h') : SIt h' k it l (i + 1) xs := by
  cases k with
  | true =>
    obtain ⟨_, ⟨o', f1, f2⟩⟩ := x
    exact ⟨ki, ⟨o', kl.extBut _ _ hn f1, f2⟩⟩
  | false =>
    obtain ⟨_, ⟨o', f1, f2⟩⟩ := x
    exact ⟨ki, ⟨o', kl.extBut _ _ hn f1, f2⟩⟩
theorem sit_item {k : Bool} {it l : Addr} {i : Nat} {xs : Array Value} {x : Value} {Q : Value → Shared → Prop} (hit : SIt s.heap k it l i xs) (hn : l ≠ it) (hx : xs[i]? = some x)
    (hQ : ∀ h', SIt h' k it l (i + 1) xs → Heap.SameBut it s.heap h' → Q x { s with heap := h' }) : wpAny (model prog w) A (Builtin.SmallTypes.nextOf (.ref it)) Q E s := by
  cases k with
  | true => exact RZ.nextOf_tuple_item hit.1 hit.2 hx fun h' a b => hQ h' (hit.step hn a b) b
  | false => exact wpAny_nextOf_list_item hit.1 hit.2 hx fun h' a b => hQ h' (hit.step hn a b) b
theorem sit_end {k : Bool} {it l : Addr} {i : Nat} {xs : Array Value} {Q : Value → Shared → Prop} (hh : A.handled = none) (hit : SIt s.heap k it l i xs) (hx : xs[i]? = none)
    (hE : ∀ h' e, Heap.ExtBut it s.heap h' → (∃ o, h'.get? e = some o ∧ o.cls = .type "StopIteration") → E (.ref e) { s with heap := h' }) : wpAny (model prog w) A (Builtin.SmallTypes.nextOf (.ref it)) Q E s := by
  cases k with
  | true => exact RZ.nextOf_tuple_end hh hit.1 hit.2 hx hE
  | false => exact wpAny_nextOf_list_end hh hit.1 hit.2 hx hE
/-- one turn while the tuple given out before is still there -/
theorem held_item {k : Bool} {z TI TO T i1 i2 l1 l2 : Addr} {f : Bool} {oT : Obj} {i : Nat} {xs ys : Array Value} {x y : Value} {Q : Value → Shared → Prop} (D : ZipApart z TI TO i1 i2 l1 l2)
    (hz : IsZipHeld s.heap z TI TO T f) (hT : s.heap.get? T = some oT) (hTI : IsPair s.heap TI (.ref i1) (.ref i2)) (h1 : SIt s.heap k i1 l1 i xs) (h2 : SIt s.heap k i2 l2 i ys) (hx : xs[i]? = some x) (hy : ys[i]? = some y)
    (hQ : ∀ h', IsZipHeld h' z TI TO T true → SIt h' k i1 l1 (i + 1) xs → SIt h' k i2 l2 (i + 1) ys → IsPair h' s.heap.objs.size x y → h'.objs.size = s.heap.objs.size + 1 →
      (∀ c o, c ≠ z → c ≠ i1 → c ≠ i2 → s.heap.get? c = some o → h'.get? c = some o) → Q (.ref s.heap.objs.size) { s with heap := h' }) :
    wpAny (model prog w) A (Builtin.«zip.__next__» ⟨[.ref z], []⟩) (fun fin s' => ∃ v, fin = .done (.ret v) ∧ Q v s') E s := by
  show wpAny _ _ (field (.ref z) 2 >>= _) _ _ _
  refine wpAny_bind (wpAny_field hz rfl (x := .bool false) rfl ?_)
  show wpAny _ _ (field (.ref z) 3 >>= _) _ _ _
  refine wpAny_bind (wpAny_field hz rfl (x := .ref TI) rfl ?_)
  refine wpAny_bind (wpAny_seqItems hTI rfl ?_)
  show wpAny _ _ (Builtin.SmallTypes.ownedTupleIsFree (.ref z) >>= _) _ _ _
  refine wpAny_bind (wpAny_tupleHeld_zip hz hT fun g1 z1 b1 => ?_)
  simp only [Bool.false_eq_true, if_false]
  refine wpAny_bind ?_
  rw [← Array.forIn_toList]
  simp only [List.forIn_cons, List.forIn_nil]
  refine wpAny_bind (wpAny_bind (wpAny_holding ?_))
  show wpAny _ _ (Builtin.SmallTypes.nextOf (.ref i1) >>= _) _ _ _
  have p1 : SIt g1 k i1 l1 i xs := h1.keep (fun o e => b1.extBut _ _ D.i1z e) fun o e => b1.extBut _ _ D.l1z e
  refine wpAny_bind (sit_item (s := { s with heap := g1 }) p1 D.l1i1 hx fun g2 q1 b2 => wpAny_pure ?_)
  refine wpAny_pure ?_
  refine wpAny_bind (wpAny_bind (wpAny_holding ?_))
  show wpAny _ _ (Builtin.SmallTypes.nextOf (.ref i2) >>= _) _ _ _
  have p2 : SIt g2 k i2 l2 i ys := (h2.keep (fun o e => b1.extBut _ _ D.i2z e) fun o e => b1.extBut _ _ D.l2z e).keep (fun o e => b2.extBut _ _ D.i12.symm e) fun o e => b2.extBut _ _ D.l2i1 e
  refine wpAny_bind (sit_item (s := { s with heap := g2 }) p2 D.l2i2 hy fun g3 q2 b3 => wpAny_pure ?_)
  refine wpAny_pure (wpAny_pure ?_)
  show wpAny _ _ (newTuple [x, y] >>= _) _ _ _
  refine wpAny_bind (wpAny_newTuple ?_)
  have hsz : g3.objs.size = s.heap.objs.size := by rw [b3.1, b2.1, b1.1]
  have z3 : IsZipHeld g3 z TI TO T true := b3.extBut _ _ D.i2z.symm (b2.extBut _ _ D.i1z.symm z1)
  have hk : ∀ c o, c ≠ z → c ≠ i1 → c ≠ i2 → s.heap.get? c = some o → g3.get? c = some o := fun c o c1 c2 c3 e => b3.extBut _ _ c3 (b2.extBut _ _ c2 (b1.extBut _ _ c1 e))
  have q3 : SIt g3 k i1 l1 (i + 1) xs := q1.keep (fun o e => b3.extBut _ _ D.i12 e) fun o e => b3.extBut _ _ D.l1i2 e
  refine wpAny_pure ⟨_, rfl, ?_⟩
  show Q (.ref g3.objs.size) _
  have hp : IsPair (g3.push { cls := .type "tuple", data := .seq #[x, y] }) g3.objs.size x y := Heap.get?_push_size _ rfl
  have z4 : (g3.push { cls := .type "tuple", data := .seq #[x, y] }).objs.size = g3.objs.size + 1 := Heap.size_push ..
  rw [hsz] at hp z4 ⊢
  exact hQ _ (Heap.get?_push_of_some _ z3) (q3.keep (fun o e => Heap.get?_push_of_some _ e) fun o e => Heap.get?_push_of_some _ e) (q2.keep (fun o e => Heap.get?_push_of_some _ e) fun o e => Heap.get?_push_of_some _ e) hp z4
    fun c o c1 c2 c3 e => Heap.get?_push_of_some _ (hk c o c1 c2 c3 e)
theorem held_end {k : Bool} {z TI TO T i1 i2 l1 l2 : Addr} {f : Bool} {oT : Obj} {i : Nat} {xs : Array Value} {Q : Fin → Shared → Prop} (hh : A.handled = none) (D : ZipApart z TI TO i1 i2 l1 l2)
    (hz : IsZipHeld s.heap z TI TO T f) (hT : s.heap.get? T = some oT) (hTI : IsPair s.heap TI (.ref i1) (.ref i2)) (h1 : SIt s.heap k i1 l1 i xs) (hx : xs[i]? = none)
    (hE : ∀ h' e, (∀ c o, c ≠ z → c ≠ i1 → c ≠ i2 → s.heap.get? c = some o → h'.get? c = some o) → (∃ o, h'.get? e = some o ∧ o.cls = .type "StopIteration") → E (.ref e) { s with heap := h' }) :
    wpAny (model prog w) A (Builtin.«zip.__next__» ⟨[.ref z], []⟩) Q E s := by
  show wpAny _ _ (field (.ref z) 2 >>= _) _ _ _
  refine wpAny_bind (wpAny_field hz rfl (x := .bool false) rfl ?_)
  show wpAny _ _ (field (.ref z) 3 >>= _) _ _ _
  refine wpAny_bind (wpAny_field hz rfl (x := .ref TI) rfl ?_)
  refine wpAny_bind (wpAny_seqItems hTI rfl ?_)
  show wpAny _ _ (Builtin.SmallTypes.ownedTupleIsFree (.ref z) >>= _) _ _ _
  refine wpAny_bind (wpAny_tupleHeld_zip hz hT fun g1 z1 b1 => ?_)
  simp only [Bool.false_eq_true, if_false]
  refine wpAny_bind ?_
  rw [← Array.forIn_toList]
  simp only [List.forIn_cons, List.forIn_nil]
  refine wpAny_bind (wpAny_bind (wpAny_holding ?_))
  show wpAny _ _ (Builtin.SmallTypes.nextOf (.ref i1) >>= _) _ _ _
  have p1 : SIt g1 k i1 l1 i xs := h1.keep (fun o e => b1.extBut _ _ D.i1z e) fun o e => b1.extBut _ _ D.l1z e
  refine wpAny_bind (sit_end (s := { s with heap := g1 }) hh p1 hx fun g2 e b2 he => ?_)
  exact hE g2 e (fun c o c1 c2 _ x => b2 _ _ c2 (b1.extBut _ _ c1 x)) he
theorem ne_lo {a b lo : Nat} (g : lo < a) (h : b ≤ lo) : a ≠ b := Nat.ne_of_gt (Nat.lt_of_le_of_lt h g)
/-- the zip at z over two such iterators; the tuple that is out stands above lo -/
structure ZSt (h : Heap) (k : Bool) (lo z TI TO i1 i2 l1 l2 : Addr) (i : Nat) (xs ys : Array Value) : Prop where
  zp : (IsZip h z TI TO .none ∧ IsPair h TO .none .none) ∨ ∃ (T : Addr) (f : Bool), IsZipHeld h z TI TO T f ∧ (∃ o, h.get? T = some o) ∧ lo < T
  ti : IsPair h TI (.ref i1) (.ref i2)
  s1 : SIt h k i1 l1 i xs
  s2 : SIt h k i2 l2 i ys
theorem zs_item {k : Bool} {lo z TI TO i1 i2 l1 l2 : Addr} {i : Nat} {xs ys : Array Value} {x y : Value} {Q : Option Value → Shared → Prop} (D : ZipApart z TI TO i1 i2 l1 l2) (L : z ≤ lo ∧ TO ≤ lo ∧ i1 ≤ lo ∧ i2 ≤ lo) (hlo : lo < s.heap.objs.size) (st : ZSt s.heap k lo z TI TO i1 i2 l1 l2 i xs ys) (hx : xs[i]? = some x) (hy : ys[i]? = some y)
    (hQ : ∀ h', ZSt h' k lo z TI TO i1 i2 l1 l2 (i + 1) xs ys → IsPair h' s.heap.objs.size x y → h'.objs.size = s.heap.objs.size + 1 → (∀ c o, c ≠ z → c ≠ TO → c ≠ i1 → c ≠ i2 → s.heap.get? c = some o → h'.get? c = some o) → Q (some (.ref s.heap.objs.size)) { s with heap := h' }) :
    wpAny (model prog w) A (pyNext (.ref z)) Q E s := by
  obtain ⟨zp, ti, s1, s2⟩ := st
  rcases zp with ⟨hz, hTO⟩ | ⟨T, f, hz, ⟨oT, hT⟩, nT⟩
  · have fin : ∀ h', IsZip h' z TI TO (rawInt s.heap.objs.size) → SIt h' k i1 l1 (i + 1) xs → SIt h' k i2 l2 (i + 1) ys → IsPair h' s.heap.objs.size x y → h'.objs.size = s.heap.objs.size + 1 →
        (∀ c o, c ≠ z → c ≠ TO → c ≠ i1 → c ≠ i2 → s.heap.get? c = some o → h'.get? c = some o) → Q (some (.ref s.heap.objs.size)) { s with heap := h' } := fun h' a1 a3 a4 a5 a6 a7 =>
      hQ h' ⟨.inr ⟨s.heap.objs.size, false, a1, ⟨_, a5⟩, hlo⟩, a7 _ _ D.TIz D.TITO D.TIi1 D.TIi2 ti, a3, a4⟩ a5 a6 a7
    cases k with
    | true =>
      obtain ⟨j1, r1⟩ := s1
      obtain ⟨j2, r2⟩ := s2
      refine RZ.pyNext_zipT_item D hz ti hTO j1 j2 r1 r2 hx hy fun h' a1 a2 a3 a4 a5 a6 a7 => ?_
      obtain ⟨u1, f1, f2⟩ := r1
      obtain ⟨u2, g1, g2⟩ := r2
      exact fin h' a1 ⟨a3, ⟨u1, a7 _ _ D.l1z D.l1TO D.l1i1 D.l1i2 f1, f2⟩⟩ ⟨a4, ⟨u2, a7 _ _ D.l2z D.l2TO D.l2i1 D.l2i2 g1, g2⟩⟩ a5 a6 a7
    | false =>
      obtain ⟨j1, r1⟩ := s1
      obtain ⟨j2, r2⟩ := s2
      refine wpAny_pyNext_zip_item D hz ti hTO j1 j2 r1 r2 hx hy fun h' a1 a2 a3 a4 a5 a6 a7 => ?_
      obtain ⟨u1, f1, f2⟩ := r1
      obtain ⟨u2, g1, g2⟩ := r2
      exact fin h' a1 ⟨a3, ⟨u1, a7 _ _ D.l1z D.l1TO D.l1i1 D.l1i2 f1, f2⟩⟩ ⟨a4, ⟨u2, a7 _ _ D.l2z D.l2TO D.l2i1 D.l2i2 g1, g2⟩⟩ a5 a6 a7
  · have hTy : s.TypeIs (.ref z) "zip" := ⟨_, hz, rfl⟩
    unfold pyNext
    refine wpAny_bind (wpAny_attempt (wpAny_callSpecial?_slot (name := Str.ofString "__next__") hTy F.slot_zip_next
      (wpAny_call_entry F.slot_zip_next hTy F.entry_zip_next
        (held_item D hz hT ti s1 s2 hx hy fun h' a1 a3 a4 a5 a6 a7 => wpAny_pure ?_) (F.args_zip_next_1 _))))
    exact hQ h' ⟨.inr ⟨T, true, a1, ⟨_, a7 _ _ (ne_lo nT L.1) (ne_lo nT L.2.2.1) (ne_lo nT L.2.2.2) hT⟩, nT⟩, a7 _ _ D.TIz D.TIi1 D.TIi2 ti, a3, a4⟩ a5 a6 fun c o c1 _ c3 c4 e => a7 c o c1 c3 c4 e
theorem zs_end {k : Bool} {lo z TI TO i1 i2 l1 l2 : Addr} {i : Nat} {xs ys : Array Value} {Q : Option Value → Shared → Prop} (hh : A.handled = none) (D : ZipApart z TI TO i1 i2 l1 l2) (st : ZSt s.heap k lo z TI TO i1 i2 l1 l2 i xs ys) (hx : xs[i]? = none)
    (hQ : ∀ h', (∀ c o, c ≠ z → c ≠ TO → c ≠ i1 → c ≠ i2 → s.heap.get? c = some o → h'.get? c = some o) → Q none { s with heap := h' }) : wpAny (model prog w) A (pyNext (.ref z)) Q E s := by
  obtain ⟨zp, ti, s1, s2⟩ := st
  rcases zp with ⟨hz, hTO⟩ | ⟨T, f, hz, ⟨oT, hT⟩, nT⟩
  · cases k with
    | true => exact RZ.pyNext_zipT_end hh D hz ti hTO s1.1 s2.1 s1.2 s2.2 (.inl hx) hQ
    | false => exact wpAny_pyNext_zip_end hh D hz ti hTO s1.1 s2.1 s1.2 s2.2 (.inl hx) hQ
  · have hTy : s.TypeIs (.ref z) "zip" := ⟨_, hz, rfl⟩
    unfold pyNext
    refine wpAny_bind (wpAny_attempt (wpAny_callSpecial?_slot (name := Str.ofString "__next__") hTy F.slot_zip_next
      (wpAny_call_entry F.slot_zip_next hTy F.entry_zip_next (held_end hh D hz hT ti s1 hx fun h' e hk he => ?_) (F.args_zip_next_1 _))))
    obtain ⟨o, ho, hc⟩ := he
    refine wpAny_bind (wpAny_isInstance (T := "StopIteration") (b := true) ⟨o, ho, hc⟩ isSubtype_stop ?_)
    exact wpAny_pure (hQ _ fun c o c1 _ c3 c4 e => hk c o c1 c3 c4 e)
/-- the addresses as hold the pairs of xs and ys, in order, as tuples; they lie above lo and rise -/
structure Prs (xs ys : Array Value) (lo : Addr) (h : Heap) (as : List Addr) : Prop where
  rise : as.Pairwise (· < ·)
  above : ∀ a ∈ as, lo < a
  pairs : ∀ (j : Nat) (a : Addr), as[j]? = some a → ∃ x y, xs[j]? = some x ∧ ys[j]? = some y ∧ IsPair h a x y
theorem Prs.there {xs ys : Array Value} {lo : Addr} {h : Heap} {as : List Addr} (g : Prs xs ys lo h as) {a : Addr} (ha : a ∈ as) : a < h.objs.size := by
  obtain ⟨j, hj⟩ := List.mem_iff_getElem?.mp ha
  obtain ⟨_, _, _, _, e⟩ := g.pairs j a hj
  exact Heap.lt_size e
theorem Prs.low {xs ys : Array Value} {lo lo' : Addr} {h : Heap} {as : List Addr} (g : Prs xs ys lo h as) (hl : lo' ≤ lo) : Prs xs ys lo' h as := ⟨g.rise, fun a ha => Nat.lt_of_le_of_lt hl (g.above a ha), g.pairs⟩
theorem zip_lens : typeLookup (.type "zip") "__len__" = pure none := am_miss_of_fast (by decide +kernel)
theorem zip_hints : typeLookup (.type "zip") "__length_hint__" = pure none := am_miss_of_fast (by decide +kernel)
section
variable {R : Result → Shared → Prop} {k : Bool} {xs ys : Array Value}
theorem ZSt.keep {h h' : Heap} {lo z TI TO i1 i2 l1 l2 : Addr} {i : Nat} (x : ZSt h k lo z TI TO i1 i2 l1 l2 i xs ys) (S : Addr) (hk : ∀ b o, b ≠ S → h.get? b = some o → h'.get? b = some o) (n : S ≠ z ∧ S ≠ TI ∧ S ≠ TO ∧ S ≠ i1 ∧ S ≠ i2 ∧ S ≠ l1 ∧ S ≠ l2) (hS : S ≤ lo) : ZSt h' k lo z TI TO i1 i2 l1 l2 i xs ys := by
  obtain ⟨n1, n2, n3, n4, n5, n6, n7⟩ := n
  obtain ⟨zp, ti, s1, s2⟩ := x
  refine ⟨?_, hk _ _ n2.symm ti, s1.keep (fun o e => hk _ _ n4.symm e) (fun o e => hk _ _ n6.symm e), s2.keep (fun o e => hk _ _ n5.symm e) fun o e => hk _ _ n7.symm e⟩
  rcases zp with ⟨a, b⟩ | ⟨T, f, a, ⟨o, b⟩, c⟩
  · exact .inl ⟨hk _ _ n1.symm a, hk _ _ n3.symm b⟩
  · exact .inr ⟨T, f, hk _ _ n1.symm a, ⟨o, hk _ _ (ne_lo c hS) b⟩, c⟩
theorem zl_loop {S lo z TI TO i1 i2 l1 l2 : Addr} (hh : A.handled = none) (D : ZipApart z TI TO i1 i2 l1 l2) (n : S ≠ z ∧ S ≠ TI ∧ S ≠ TO ∧ S ≠ i1 ∧ S ≠ i2 ∧ S ≠ l1 ∧ S ≠ l2) (hSl : S ≤ lo) (L : z ≤ lo ∧ TO ≤ lo ∧ i1 ≤ lo ∧ i2 ≤ lo) (hsz : ys.size = xs.size) (hn : xs.size ≤ sizeLine) (res : Value) {h1 : Heap}
    (hR : ∀ h' tk acc c as, (∀ b o, b ≠ S → b ≠ z → b ≠ TO → b ≠ i1 → b ≠ i2 → h1.get? b = some o → h'.get? b = some o) → h'.get? S = some { cls := .type "list", dict := none, data := .seq acc c, slots := #[] } → as.length = xs.size → Prs xs ys lo h' as →
      acc.toList = as.map Value.ref → R (.ok (.ret res)) { s with heap := h', toks := tk }) :
    ∀ (m i : Nat) (h : Heap) (tk c : Nat) (acc : Array Value) (as : List Addr), xs.size - i = m → i ≤ xs.size → ZSt h k lo z TI TO i1 i2 l1 l2 i xs ys → (∀ b o, b ≠ S → b ≠ z → b ≠ TO → b ≠ i1 → b ≠ i2 → h1.get? b = some o → h.get? b = some o) →
      h.get? S = some { cls := .type "list", dict := none, data := .seq acc c, slots := #[] } → acc.toList = as.map Value.ref → as.length = i → Prs xs ys lo h as → lo < h.objs.size →
      codeAny (model prog w) A (.builtin "list.extend.loop" ⟨[.ref S, .ref z, res], []⟩) R { s with heap := h, toks := tk } := by
  intro m
  induction m with
  | zero =>
    intro i h tk c acc as hm hi st hkeep hS hacc hal hG hls
    have hin : i = xs.size := by omega
    refine codeAny_builtin PySem.F.entry_extend_loop ?_
    rw [Around.under_plainId PySem.F.plain_extend_loop _]
    show wpAny _ A.in1 (pyNext (.ref z) >>= _) _ _ _
    refine wpAny_bind (zs_end (s := { s with heap := h, toks := tk }) (A := A.in1) hh D st (by rw [hin]; simp) fun h' he => ?_)
    refine wpAny_pure (hR h' tk acc c as (fun b o q1 q2 q3 q4 q5 e => he b o q2 q3 q4 q5 (hkeep b o q1 q2 q3 q4 q5 e)) (he S _ n.1 n.2.2.1 n.2.2.2.1 n.2.2.2.2.1 hS) (by omega) ⟨hG.rise, hG.above, fun j a hj => ?_⟩ hacc)
    obtain ⟨x, y, e1, e2, e3⟩ := hG.pairs j a hj
    have ga := hG.above a (List.mem_of_getElem? hj)
    exact ⟨x, y, e1, e2, he a _ (ne_lo ga L.1) (ne_lo ga L.2.1) (ne_lo ga L.2.2.1) (ne_lo ga L.2.2.2) e3⟩
  | succ m ih =>
    intro i h tk c acc as hm hi st hkeep hS hacc hal hG hls
    have hlt : i < xs.size := by omega
    have hlt2 : i < ys.size := by omega
    have hac : acc.size = i := by rw [← Array.length_toList, hacc, List.length_map, hal]
    refine codeAny_builtin PySem.F.entry_extend_loop ?_
    rw [Around.under_plainId PySem.F.plain_extend_loop _]
    show wpAny _ A.in1 (pyNext (.ref z) >>= _) _ _ _
    refine wpAny_bind (zs_item (s := { s with heap := h, toks := tk }) D L hls st (Array.getElem?_eq_getElem hlt) (Array.getElem?_eq_getElem hlt2) fun h' st' ht hz' hkp => ?_)
    dsimp only at ht hz' hkp ⊢
    have hS' := hkp S _ n.1 n.2.2.1 n.2.2.2.1 n.2.2.2.2.1 hS
    have up : ∀ b o, b ≠ S → h'.get? b = some o → (h'.update S (Obj.mapSeq (·.push (Value.ref h.objs.size)))).get? b = some o := fun b o hb e => (Heap.get?_update_other _ _ (Ne.symm hb)).trans e
    have hSlt : S < h.objs.size := Heap.lt_size hS
    show wpAny _ A.in1 (updateSeq S (·.push (Value.ref h.objs.size)) >>= _) _ _ _
    refine wpAny_bind ?_
    refine wpAny_updateSeq hS' rfl (wpAny_pure ⟨plainId_quiet PySem.F.plain_extend_loop _, ih (i + 1) _ tk _ (acc.push (Value.ref h.objs.size)) (as ++ [h.objs.size]) (by omega) hlt (st'.keep S up n hSl)
      (fun b o q1 q2 q3 q4 q5 e => up b o q1 (hkp b o q2 q3 q4 q5 (hkeep b o q1 q2 q3 q4 q5 e))) (Heap.get?_update_self _ hS' rfl) (by rw [Array.toList_push, hacc, List.map_append]; rfl) (by rw [List.length_append, hal]; rfl) ⟨?_, ?_, ?_⟩ ?_⟩) (by rw [hac]; omega) (by show (acc.push (Value.ref h.objs.size)).size ≤ sizeLine + 1; rw [Array.size_push, hac]; omega)
    · refine List.pairwise_append.mpr ⟨hG.rise, List.pairwise_singleton _ _, fun a ha b hb => ?_⟩
      rw [List.mem_singleton.mp hb]
      exact hG.there ha
    · intro a ha
      rcases List.mem_append.mp ha with ha | ha
      · exact hG.above a ha
      · rw [List.mem_singleton.mp ha]; exact hls
    · intro j b hj
      rcases Nat.lt_trichotomy j as.length with q | q | q
      · rw [List.getElem?_append_left q] at hj
        obtain ⟨x, y, e1, e2, e3⟩ := hG.pairs j b hj
        have hb := hG.above b (List.mem_of_getElem? hj)
        exact ⟨x, y, e1, e2, up b _ (ne_lo hb hSl) (hkp b _ (ne_lo hb L.1) (ne_lo hb L.2.1) (ne_lo hb L.2.2.1) (ne_lo hb L.2.2.2) e3)⟩
      · subst q
        have hb : h.objs.size = b := by simpa using hj
        subst hb
        exact ⟨_, _, by rw [hal]; exact Array.getElem?_eq_getElem hlt, by rw [hal]; exact Array.getElem?_eq_getElem hlt2, up _ _ (Nat.ne_of_gt hSlt) ht⟩
      · have hnone : (as ++ [h.objs.size])[j]? = none := List.getElem?_eq_none (by rw [List.length_append, List.length_singleton]; omega)
        rw [hnone] at hj; cases hj
    · have e : (h'.update S (Obj.mapSeq (·.push (Value.ref h.objs.size)))).get? h.objs.size = _ := up _ _ (Nat.ne_of_gt hSlt) ht
      exact Nat.lt_trans hls (Heap.lt_size e)
theorem zip_hint {z TI TO : Addr} {f0 : Value} {Q : Bool → Shared → Prop} (hz : IsZip s.heap z TI TO f0) (h : Q true s) : wpAny (model prog w) A (Builtin.List.listLengthHint (.ref z)) Q E s := by
  have hT : s.TypeIs (.ref z) "zip" := ⟨_, hz, rfl⟩
  unfold Builtin.List.listLengthHint
  refine wpAny_bind (wpAny_specialOf hT zip_lens ?_)
  show wpAny _ _ (specialOf (Value.ref z) (Str.ofString "__length_hint__") >>= _) _ _ _
  refine wpAny_bind (wpAny_specialOf hT zip_hints ?_)
  exact wpAny_pure h
theorem zl_extend {S z TI TO i1 i2 l1 l2 : Addr} {lo c0 : Nat} (hh : A.handled = none) (D : ZipApart z TI TO i1 i2 l1 l2) (n : S ≠ z ∧ S ≠ TI ∧ S ≠ TO ∧ S ≠ i1 ∧ S ≠ i2 ∧ S ≠ l1 ∧ S ≠ l2) (hSl : S ≤ lo) (L : z ≤ lo ∧ TO ≤ lo ∧ i1 ≤ lo ∧ i2 ≤ lo) (hls : lo < s.heap.objs.size) (hsz : ys.size = xs.size) (hn : xs.size ≤ sizeLine) (res : Value)
    (st : ZSt s.heap k lo z TI TO i1 i2 l1 l2 0 xs ys) (hz0 : IsZip s.heap z TI TO .none) (hS : s.heap.get? S = some { cls := .type "list", data := .seq #[] c0 })
    (hR : ∀ h' tk acc c as, (∀ b o, b ≠ S → b ≠ z → b ≠ TO → b ≠ i1 → b ≠ i2 → s.heap.get? b = some o → h'.get? b = some o) → h'.get? S = some { cls := .type "list", dict := none, data := .seq acc c, slots := #[] } → as.length = xs.size → Prs xs ys lo h' as →
      acc.toList = as.map Value.ref → R (.ok (.ret res)) { s with heap := h', toks := tk }) :
    wpAny (model prog w) A.in1 (Builtin.List.listExtendWith (.ref S) (.ref z) res)
      (fun fin s' => match fin with | .done f => R (.ok f) s' | .again c' => c'.quiet = true ∧ codeAny (model prog w) A c' R s') (fun e s' => R (.error e) s') s := by
  have hT : s.TypeIs (.ref z) "zip" := ⟨_, hz0, rfl⟩
  unfold Builtin.List.listExtendWith
  refine wpAny_bind (wpAny_typeOf (T := "zip") hT ?_)
  have e1 : Builtin.List.listSameRef (.ref S) (.ref z) = false := by simp [Builtin.List.listSameRef, n.1]
  have e2 : (Value.type "zip" == Value.type "list") = false := by decide
  have e3 : (Value.type "zip" == Value.type "tuple") = false := by decide
  simp only [e1, e2, e3, Bool.or_false, Bool.false_eq_true, if_false]
  refine wpAny_bind (wpAny_pyIter_zip hz0 ?_)
  refine wpAny_bind (wpAny_holding (zip_hint hz0 ?_))
  simp only [Bool.true_or, if_true]
  refine wpAny_bind (wpAny_rule ?_)
  refine wpAny_bind ?_
  show wpAny _ _ (updateSeq S (·.push .none) >>= fun _ => updateSeq S (·.pop)) _ _ _
  refine wpAny_bind (wpAny_updateSeq hS rfl ?_)
  have hS2 := Heap.get?_update_self (Obj.mapSeq (·.push Value.none)) hS rfl
  refine wpAny_updateSeq (hz := by seq_fits) hS2 rfl ?_
  have hS3 := Heap.get?_update_self (Obj.mapSeq (·.pop)) hS2 rfl
  have oth : ∀ b o, b ≠ S → s.heap.get? b = some o → ((s.heap.update S (Obj.mapSeq (·.push Value.none))).update S (Obj.mapSeq (·.pop))).get? b = some o :=
    fun b o hb e => (Heap.get?_update_other _ _ (Ne.symm hb)).trans ((Heap.get?_update_other _ _ (Ne.symm hb)).trans e)
  refine wpAny_pure ⟨plainId_quiet PySem.F.plain_extend_loop _, ?_⟩
  refine zl_loop (s := s) (k := k) (h1 := s.heap) hh D n hSl L hsz hn res hR xs.size 0 _ s.toks _ #[] [] (Nat.sub_zero _) (Nat.zero_le _) (st.keep S oth n hSl) (fun b o q1 _ _ _ _ e => oth b o q1 e) hS3 rfl rfl
    ⟨List.Pairwise.nil, (fun _ ha => nomatch ha), (fun j a hj => by simp at hj)⟩ ?_
  rw [Heap.size_update, Heap.size_update]
  exact hls
theorem zl_call {z TI TO i1 i2 l1 l2 : Addr} {Q : Value → Shared → Prop} (hh : A.handled = none) (D : ZipApart z TI TO i1 i2 l1 l2) (U : z < s.heap.objs.size ∧ TI < s.heap.objs.size ∧ TO < s.heap.objs.size ∧ i1 < s.heap.objs.size ∧ i2 < s.heap.objs.size ∧ l1 < s.heap.objs.size ∧ l2 < s.heap.objs.size)
    (hsz : ys.size = xs.size) (hn : xs.size ≤ sizeLine) (st : ∀ lo, ZSt s.heap k lo z TI TO i1 i2 l1 l2 0 xs ys) (hz0 : IsZip s.heap z TI TO .none)
    (hQ : ∀ h' tk acc c as, (∀ b o, b ≠ z → b ≠ TO → b ≠ i1 → b ≠ i2 → s.heap.get? b = some o → h'.get? b = some o) → h'.get? s.heap.objs.size = some { cls := .type "list", dict := none, data := .seq acc c, slots := #[] } → as.length = xs.size → Prs xs ys s.heap.objs.size h' as →
      acc.toList = as.map Value.ref → Q (.ref s.heap.objs.size) { s with heap := h', toks := tk }) :
    wpAny (model prog w) A (call (.type "list") [.ref z]) Q E s := by
  refine callType_codes (Q₁ := fun obj s₁ => obj = .ref s.heap.objs.size ∧ s₁ = { s with heap := s.heap.push { cls := .type "list", data := .seq #[] } }) PySem.F.called_list (PySem.F.typeCall_list_1 _) PySem.F.entry_list_init
    (code_list_new _ ⟨rfl, rfl⟩) fun obj s₁ h₁ => ?_
  obtain ⟨rfl, rfl⟩ := h₁
  have hS : (s.heap.push { cls := .type "list", data := .seq #[] }).get? s.heap.objs.size = some { cls := .type "list", data := .seq #[] } := Heap.get?_push_size _ rfl
  refine ⟨⟨_, hS, rfl⟩, PySem.F.args_list_init_2 _ _, ?_⟩
  obtain ⟨u1, u2, u3, u4, u5, u6, u7⟩ := U
  show wpAny _ _ (do let old ← Builtin.List.listItems (.ref s.heap.objs.size); Builtin.List.listUpdate (.ref s.heap.objs.size) (fun _ => #[]); letGo old.toList.reverse; Builtin.List.listExtendWith (.ref s.heap.objs.size) (.ref z) .none) _ _ _
  refine wpAny_bind ?_
  unfold Builtin.List.listItems
  refine wpAny_bind (wpAny_seqItems hS rfl (wpAny_pure ?_))
  show wpAny _ _ (updateSeq s.heap.objs.size (fun _ => #[]) >>= fun _ => letGo (#[] : Array Value).toList.reverse >>= fun _ => Builtin.List.listExtendWith (.ref s.heap.objs.size) (.ref z) .none) _ _ _
  refine wpAny_bind (wpAny_updateSeq hS rfl ?_)
  have hS2 := Heap.get?_update_self (Obj.mapSeq (fun _ => (#[] : Array Value))) hS rfl
  have oth : ∀ b o, b ≠ s.heap.objs.size → s.heap.get? b = some o → ((s.heap.push { cls := .type "list", data := .seq #[] }).update s.heap.objs.size (Obj.mapSeq (fun _ => (#[] : Array Value)))).get? b = some o :=
    fun b o hb e => (Heap.get?_update_other _ _ (Ne.symm hb)).trans (Heap.get?_push_of_some _ e)
  refine wpAny_bind (wpAny_letGo ?_)
  have nn : s.heap.objs.size ≠ z ∧ s.heap.objs.size ≠ TI ∧ s.heap.objs.size ≠ TO ∧ s.heap.objs.size ≠ i1 ∧ s.heap.objs.size ≠ i2 ∧ s.heap.objs.size ≠ l1 ∧ s.heap.objs.size ≠ l2 :=
    ⟨Nat.ne_of_gt u1, Nat.ne_of_gt u2, Nat.ne_of_gt u3, Nat.ne_of_gt u4, Nat.ne_of_gt u5, Nat.ne_of_gt u6, Nat.ne_of_gt u7⟩
  refine zl_extend (s := { s with heap := (s.heap.push { cls := .type "list", data := .seq #[] }).update s.heap.objs.size (Obj.mapSeq (fun _ => (#[] : Array Value))) }) (prog := prog) (w := w) (A := A.in1) (R := wants (fun r s₂ => r = Value.none ∧ Q (Value.ref s.heap.objs.size) s₂) E) (k := k) (lo := s.heap.objs.size) hh D nn (Nat.le_refl _) ⟨Nat.le_of_lt u1, Nat.le_of_lt u3, Nat.le_of_lt u4, Nat.le_of_lt u5⟩ ?_ hsz hn .none ((st _).keep s.heap.objs.size oth nn (Nat.le_refl _)) (oth _ _ nn.1.symm hz0) hS2 (fun h' tk acc c as hk hS' hl hG hacc => ?_)
  · show s.heap.objs.size < (Heap.update _ _ _).objs.size
    rw [Heap.size_update, Heap.size_push]
    exact Nat.lt_succ_self _
  · exact ⟨rfl, hQ h' tk acc c as (fun b o q2 q3 q4 q5 e => hk b o (Nat.ne_of_lt (Heap.lt_size e)) q2 q3 q4 q5 (oth b o (Nat.ne_of_lt (Heap.lt_size e)) e)) hS' hl hG hacc⟩
end
end
/-! ### over the layer -/
/-- at ts stand the pairs of xs and ys -/
def Prz (H : Hp) (ts : List Addr) (xs ys : List V) : Prop := ts.length = xs.length ∧ ∀ (j : Nat) (t : Addr), ts[j]? = some t → ∃ x y, xs[j]? = some x ∧ ys[j]? = some y ∧ H t = some (.tup [x, y])
/-- list(zip(a, b)) -/
def uLZ (K : PySem.W.Frag) (ta : TA) : TE := fun σ H Q => ta σ H fun vs H1 => ∃ a b xs ys, vs = [.ref a, .ref b] ∧ xs.length = ys.length ∧ ((SqT K H1 a xs ∧ SqT K H1 b ys) ∨ (SqL K H1 a xs ∧ SqL K H1 b ys)) ∧
  ∀ (H' : Hp) (p : Addr) (ts : List Addr), Ex H1 H' → H1 p = none → (∀ t ∈ ts, H1 t = none) → p ∉ ts → H' p = some (.lst (ts.map V.ref)) → Prz H' ts xs ys → Q (.ref p) H'
section
variable {X : Cx} {pins : List (Addr × Obj)} {σ : L2.St} {H : Hp} {s : Shared}
/-- the tuples tracked at their addresses -/
def layT : Hp → List Addr → List V → List V → Hp
  | H, a :: as, x :: xs, y :: ys => layT (upd H a (.tup [x, y])) as xs ys
  | H, _, _, _ => H
theorem layT_off {b : Addr} : ∀ (as : List Addr) (xs ys : List V) (H : Hp), b ∉ as → layT H as xs ys b = H b
  | [], _, _, _, _ => rfl
  | _ :: _, [], _, _, _ => rfl
  | _ :: _, _ :: _, [], _, _ => rfl
  | a :: as, x :: xs, y :: ys, H, h => by
    show layT (upd H a (.tup [x, y])) as xs ys b = H b
    rw [layT_off as xs ys _ (fun z => h (List.mem_cons_of_mem _ z)), upd_ne (fun z => h (by rw [z]; exact List.mem_cons_self))]
theorem layT_at : ∀ (as : List Addr) (xs ys : List V) (H : Hp), as.length = xs.length → xs.length = ys.length → as.Nodup → Prz (layT H as xs ys) as xs ys
  | [], [], _, _, _, _, _ => ⟨rfl, fun j t h => by simp at h⟩
  | [], _ :: _, _, _, h, _, _ => by cases h
  | _ :: _, [], _, _, h, _, _ => by cases h
  | _ :: _, _ :: _, [], _, _, h, _ => by cases h
  | a :: as, x :: xs, y :: ys, H, h, h2, hn => by
    obtain ⟨n1, n2⟩ := List.nodup_cons.mp hn
    obtain ⟨l, ih⟩ := layT_at as xs ys (upd H a (.tup [x, y])) (Nat.succ.inj h) (Nat.succ.inj h2) n2
    refine ⟨h, fun j t e => ?_⟩
    show ∃ u v, _ ∧ _ ∧ layT (upd H a (.tup [x, y])) as xs ys t = _
    cases j with
    | zero =>
      simp at e
      subst e
      refine ⟨x, y, rfl, rfl, ?_⟩
      rw [layT_off as xs ys _ n1, upd_same]
    | succ j =>
      obtain ⟨u, v, e1, e2, e3⟩ := ih j t (by simpa using e)
      exact ⟨u, v, by simpa using e1, by simpa using e2, e3⟩
theorem zl_laid {h' : Heap} {tk : Nat} {xs ys : List V} {us vs : List Value} {acc : Array Value} {c : Nat} {as : List Addr} {S : Addr} (I : Inv X pins σ H s) (hz : xs.length ≤ sizeLine) (lxy : xs.length = ys.length) (ru : Vals xs us) (rv : Vals ys vs) (hS0 : s.heap.objs.size ≤ S)
    (hk : ∀ b o, s.heap.get? b = some o → h'.get? b = some o) (hS : h'.get? S = some { cls := .type "list", dict := none, data := .seq acc c, slots := #[] }) (hl : as.length = xs.length) (hG : Prs us.toArray vs.toArray S h' as) (hacc : acc.toList = as.map Value.ref) :
    ∃ H' : Hp, Ex H H' ∧ H S = none ∧ (∀ t ∈ as, H t = none) ∧ S ∉ as ∧ H' S = some (.lst (as.map V.ref)) ∧ Prz H' as xs ys ∧ Inv X pins σ H' { s with heap := h', toks := tk } := by
  have hSn : S ∉ as := fun z => Nat.lt_irrefl _ (hG.above _ z)
  have nd : as.Nodup := List.Pairwise.imp (fun {a b} (h : a < b) => Nat.ne_of_lt h) hG.rise
  have new : ∀ t ∈ as, H t = none := fun t ht => I.hok.fresh (Nat.le_trans hS0 (Nat.le_of_lt (hG.above t ht)))
  have newS : H S = none := I.hok.fresh hS0
  have atP := layT_at as xs ys (upd H S (.lst (as.map V.ref))) hl lxy nd
  have off : ∀ b, b ∉ as → b ≠ S → layT (upd H S (.lst (as.map V.ref))) as xs ys b = H b := fun b h1 h2 => by rw [layT_off as xs ys _ h1, upd_ne h2]
  have low : ∀ b o, s.heap.get? b = some o → b ∉ as ∧ b ≠ S := fun b o e => ⟨fun z => absurd (Heap.lt_size e) (Nat.not_lt.mpr (Nat.le_trans hS0 (Nat.le_of_lt (hG.above b z)))), Nat.ne_of_lt (Nat.lt_of_lt_of_le (Heap.lt_size e) hS0)⟩
  have kp : Ex H (layT (upd H S (.lst (as.map V.ref))) as xs ys) := fun b u e => by
    rw [off b (fun z => by rw [new b z] at e; cases e) (fun z => by rw [z, newS] at e; cases e)]
    exact e
  have eS : layT (upd H S (.lst (as.map V.ref))) as xs ys S = some (.lst (as.map V.ref)) := by rw [layT_off as xs ys _ hSn, upd_same]
  refine ⟨layT (upd H S (.lst (as.map V.ref))) as xs ys, kp, newS, new, hSn, eS, atP, ?_⟩
  refine I.call' (ch := []) rfl ⟨fun b o q _ _ _ => hk b o q, fun b o q _ _ _ => ⟨o.slots, hk b o q⟩, fun b o q n _ => ?_, fun b o q _ => ⟨o, hk b o q⟩, fun b xs q => kp b _ q, fun b o u q => kp b _ q, fun b ps q => ⟨#[], by rw [kp b _ q]; simp⟩⟩ (fun b u q => ?_) I.bare fun b z => by simp at z
  · obtain ⟨z1, z2⟩ := low b o q
    rw [off b z1 z2]
    exact n
  · by_cases hb : b ∈ as
    · obtain ⟨j, hj⟩ := List.mem_iff_getElem?.mp hb
      obtain ⟨x, y, e1, e2, e3⟩ := atP.2 j b hj
      rw [e3] at q
      cases q
      obtain ⟨x', y', f1, f2, f3⟩ := hG.pairs j b hj
      obtain ⟨u1, g1, r1⟩ := Vals.get ru e1
      obtain ⟨u2, g2, r2⟩ := Vals.get rv e2
      have a1 : x' = u1 := by
        rw [List.getElem?_toArray, g1] at f1
        exact (Option.some.inj f1).symm
      have a2 : y' = u2 := by
        rw [List.getElem?_toArray, g2] at f2
        exact (Option.some.inj f2).symm
      subst a1 a2
      exact ⟨by show 2 ≤ sizeLine; decide, [x', y'], .cons r1 (.cons r2 .nil), ⟨_, f3, rfl, _, rfl⟩⟩
    · by_cases hb2 : b = S
      · subst hb2
        rw [eS] at q
        cases q
        refine ⟨by rw [List.length_map, hl]; exact hz, acc.toList, c, by rw [hacc]; exact LiI.vals_refs as, ?_⟩
        rw [Array.toArray_toList]
        exact hS
      · rw [off b hb hb2] at q
        exact (I.hok b u q).stay (fun d v _ y => hk d v y) (fun d y => kp d _ y) fun d xs y => kp d _ y
theorem lt_ne {b n : Nat} (h : b < n) (j : Nat) : b ≠ n + j := Nat.ne_of_lt (Nat.lt_of_lt_of_le h (Nat.le_add_right _ _))
theorem lz7 {a b n : Nat} (la : a < n) (lb : b < n) : n + 4 < n + 5 ∧ n + 2 < n + 5 ∧ n + 3 < n + 5 ∧ n < n + 5 ∧ n + 1 < n + 5 ∧ a < n + 5 ∧ b < n + 5 := by omega
theorem pe_listZip {e e2 : Expr} {ta : TA} {p p2 pos pos2 : Pos} (hc : X.calm = true) (hg : Gl X "list") (hm : X.mg "list" = none) (hg2 : Gl X "zip") (hm2 : X.mg "zip" = none) (ha : PA X [e, e2] ta)
    (hs : starEach [e, e2] X.env = (false, eval e X.env) :: starEach [e2] X.env := by rfl) (hpl : (backTo pos2 (starEach [e2] X.env)).any (·.1) = false := by rfl)
    (hs1 : starEach [.Call (.Name "zip" p2) [e, e2] [] pos2] X.env = (false, eval (.Call (.Name "zip" p2) [e, e2] [] pos2) X.env) :: starEach [] X.env := by rfl) :
    PE X (.Call (.Name "list" p) [.Call (.Name "zip" p2) [e, e2] [] pos2] [] pos) (uLZ X.K ta) := by
  refine ⟨fun pins s σ H Q I h => ?_⟩
  refine wpAny_Call_Name_kw (ld_blt (u := .type "list") I hg hm (by decide +kernel) ?_)
  refine PyProof.Rows.callWith_type1 ?_ hs1 rfl
  rw [hs1]
  refine Calls.spliced_cons ?_
  refine Call_ (ld_blt I hg2 hm2 PyProof.Rows.boot_zip (PyProof.Rows.callWith_type1 (thn (ha.run pos2 pins s σ H _ I h) fun us s1 z => ?_) hs hpl))
  obtain ⟨vs, H1, I1, r1, a, b, xs, ys, ex, lxy, hq, q⟩ := z
  subst ex
  cases r1 with
  | cons r rr =>
    cases rr with
    | cons r' rr =>
      cases rr
      cases r
      cases r'
      have fin : ∀ (k : Bool) (its its2 : List Value), Vals xs its → Vals ys its2 → xs.length ≤ sizeLine → (∀ h' : Heap, (∀ c o, s1.heap.get? c = some o → h'.get? c = some o) → match k with | true => h'.IsTuple a its.toArray ∧ h'.IsTuple b its2.toArray | false => h'.IsList a its.toArray ∧ h'.IsList b its2.toArray) → a < s1.heap.objs.size → b < s1.heap.objs.size →
          ∀ h' : Heap, IsZip h' (s1.heap.objs.size + 4) (s1.heap.objs.size + 2) (s1.heap.objs.size + 3) .none → IsPair h' (s1.heap.objs.size + 2) (.ref s1.heap.objs.size) (.ref (s1.heap.objs.size + 1)) →
            IsPair h' (s1.heap.objs.size + 3) .none .none → (match k with | true => h'.IsTupleIter s1.heap.objs.size a 0 ∧ h'.IsTupleIter (s1.heap.objs.size + 1) b 0 | false => h'.IsListIter s1.heap.objs.size a 0 ∧ h'.IsListIter (s1.heap.objs.size + 1) b 0) → h'.objs.size = s1.heap.objs.size + 5 →
            (∀ c o, s1.heap.get? c = some o → h'.get? c = some o) → wpAny (model X.prog X.w) X.A (call (.type "list") [.ref (s1.heap.objs.size + 4)]) (EP X pins σ Q) X.xe { s1 with heap := h' } := by
        intro k its its2 rv rv2 hz hkk la lb h' hz0 hTI hTO hit hsz hk
        have lu := rv.length
        have lv := rv2.length
        have st : ∀ lo, ZSt h' k lo (s1.heap.objs.size + 4) (s1.heap.objs.size + 2) (s1.heap.objs.size + 3) s1.heap.objs.size (s1.heap.objs.size + 1) a b 0 its.toArray its2.toArray := fun lo => by
          have hq2 := hkk h' hk
          cases k with
          | true => exact ⟨.inl ⟨hz0, hTO⟩, hTI, ⟨hit.1, hq2.1⟩, ⟨hit.2, hq2.2⟩⟩
          | false => exact ⟨.inl ⟨hz0, hTO⟩, hTI, ⟨hit.1, hq2.1⟩, ⟨hit.2, hq2.2⟩⟩
        refine zl_call (s := { s1 with heap := h' }) (k := k) (I1.ok.hd hc) (PySem.W.ktu_apart s1.heap.objs.size a b la lb) ?_ (by rw [List.size_toArray, List.size_toArray]; omega) (by rw [List.size_toArray]; omega) st hz0 fun h2 tk acc c as k2 hS hl hG hacc => ?_
        · show _ < h'.objs.size ∧ _ < h'.objs.size ∧ _ < h'.objs.size ∧ _ < h'.objs.size ∧ _ < h'.objs.size ∧ _ < h'.objs.size ∧ _ < h'.objs.size
          rw [hsz]
          exact lz7 la lb
        · have hl' : as.length = xs.length := by
            rw [hl, List.size_toArray]
            omega
          have hS0 : s1.heap.objs.size ≤ h'.objs.size := by
            rw [hsz]
            exact Nat.le_add_right _ _
          obtain ⟨H', x1, x2, x3, x4, x5, x6, J⟩ := zl_laid (tk := tk) I1 hz lxy rv rv2 hS0 (fun b o e => k2 b o (lt_ne (Heap.lt_size e) 4) (lt_ne (Heap.lt_size e) 3) (lt_ne (Heap.lt_size e) 0) (lt_ne (Heap.lt_size e) 1) (hk b o e)) hS hl' hG hacc
          exact ⟨.ref h'.objs.size, H', J, rfl, q H' _ as x1 x2 x3 x4 x5 x6⟩
      rcases hq with ⟨hqx, hqy⟩ | ⟨hqx, hqy⟩
      · obtain ⟨its, rv, p1, z1⟩ := I1.tuple hqx
        obtain ⟨its2, rv2, p2, _⟩ := I1.tuple hqy
        obtain ⟨o1, ho1, w1⟩ := id p1
        obtain ⟨o2, ho2, w2⟩ := id p2
        have lu := rv.length
        refine RZ.call_zipT (show s1.heap.IsTuple a its.toArray from p1) (show s1.heap.IsTuple b its2.toArray from p2) fun h' hz hTI hTO h1 h2 hsz hk => ?_
        refine Calls.spliced_nil ?_
        exact fin true its its2 rv rv2 (by omega) (fun h3 k3 => ⟨⟨o1, k3 _ _ ho1, w1⟩, ⟨o2, k3 _ _ ho2, w2⟩⟩) (Heap.lt_size ho1) (Heap.lt_size ho2) h' hz hTI hTO ⟨h1, h2⟩ hsz hk
      · obtain ⟨its, rv, p1, z1⟩ := I1.list hqx
        obtain ⟨its2, rv2, p2, _⟩ := I1.list hqy
        have lu := rv.length
        obtain ⟨o1, ho1, w1⟩ := p1.isList
        obtain ⟨o2, ho2, w2⟩ := p2.isList
        refine call_zip_2 p1.isList p2.isList fun h' hz hTI hTO h1 h2 hsz hk => ?_
        refine Calls.spliced_nil ?_
        exact fin false its its2 rv rv2 (by omega) (fun h3 k3 => ⟨⟨o1, k3 _ _ ho1, w1⟩, ⟨o2, k3 _ _ ho2, w2⟩⟩) (Heap.lt_size ho1) (Heap.lt_size ho2) h' hz hTI hTO ⟨h1, h2⟩ hsz hk
end
end Bk
set_option Elab.async false
set_option linter.all false
set_option maxRecDepth 100000
set_option maxHeartbeats 4000000
/-! Bk4: calls of defs, of built-ins by values; the turns of a reading. -/
namespace Bk
open PySem PySem.Spec PyProof.Rows L2
section
variable {X : Cx}
/-! ### calls of defs -/
theorem passAt0 {σ : L2.St} : PassesAt (L2.CX X.prog X.w) X σ (fun _ _ _ => False) := fun _ _ _ _ _ _ h => by
  obtain ⟨_, _, _, _, _, _, _, _, _, _, _, _, z⟩ := h
  exact z.elim
def uCall (sp : Sp) (dvs : List V) (E : L2.St → XK) (t : TA) : TE := fun σ H Q => t σ H fun vs H1 => sp (vs ++ dvs) H1 Q (E σ)
theorem run_fnD {CX : CXT} {k : Nat} {f : Addr} {fd : FuncData} {ps : List Str} {sp : Sp} {ds : List Value} {dvs : List V} {E : XK} {pins : List (Addr × Obj)} {σ : L2.St} {H : Hp} {s : Shared} {Q : VK} {us : List Value} {vs : List V}
    (F : FnOk X.prog X.w X.K X.mg X.base CX k f fd ps sp) (hr : Room k X.A) (hb : Binds X.K fd ps ds) (hd : Vals dvs ds) (hx : PassesAt CX X σ E) (I : Inv X pins σ H s) (r : Vals vs us) (h : sp (vs ++ dvs) H Q E) :
    wpAny (model X.prog X.w) X.A (call (.ref f) us) (EP X pins σ Q) X.xe s := by
  have r2 : Vals (vs ++ dvs) (us ++ ds) := r.append hd
  have hl : (us ++ ds).length = ps.length := by rw [← r2.length]; exact F.len _ _ _ _ h
  refine wpAny_call (codeAny_mono (F.run X.A X.stack s H ⟨us, []⟩ (us ++ ds) (vs ++ dvs) Q E hr I.env0 (hb s us I.kIn hl) r2 h) fun r s' hq => ?_)
  cases r with
  | error e => exact hx pins H s e s' I hq
  | ok fl =>
    cases fl with
    | ret u => exact I.after hq
    | next => exact False.elim hq
    | brk => exact False.elim hq
    | cont => exact False.elim hq
variable {CX : CXT} {k : Nat} {f : Addr} {fd : FuncData} {ps : List Str} {sp : Sp} {ds : List Value} {dvs : List V} {E : L2.St → XK} {x : Str} {p pos : Pos} {e : Expr} {es : List Expr} {t : TA}
theorem pe_callD (F : FnOk X.prog X.w X.K X.mg X.base CX k f fd ps sp) (hr : Room k X.A) (hg : Gl X x) (hm : X.mg x = some (.ref f)) (hk : PySem.W.keepIn X.K (.ref f) = true) (hb : Binds X.K fd ps ds) (hd : Vals dvs ds) (hx : ∀ σ, PassesAt CX X σ (E σ))
    (ha : PA X (e :: es) t) (hdb : (x == ("__debug__" : Str)) = false := by decide) (he : starEach (e :: es) X.env = (false, eval e X.env) :: starEach es X.env := by rfl) (hpl : (backTo pos (starEach es X.env)).any (·.1) = false := by rfl) :
    PE X (.Call (.Name x p) (e :: es) [] pos) (uCall sp dvs E t) := by
  refine ⟨fun pins s σ H Q I h => ?_⟩
  refine wpAny_Call_Name_kw (ld_glob I hg hm ?_ hdb)
  refine PySem.W.callWith_K (h₀ := X.base) I.ok.mod.kin hk (thn (ha.run pos pins s σ H _ I h) fun us s1 z => ?_) he hpl
  obtain ⟨vs, H1, I1, r, q⟩ := z
  exact ⟨I1.kIn, run_fnD F hr hb hd (hx σ) I1 r q⟩
/-! ### calls of built-ins by values -/
def uAbs : List V → Hp → VK → Prop := fun xs H Q => match xs with
  | [.int i] => Q (.int (i.natAbs : Nat)) H
  | _ => False
theorem uk_abs : CallR X (.builtin "abs") uAbs := by
  intro pins s σ H xs us Q I r h
  unfold uAbs at h
  split at h
  · rename_i i
    refine call_abs pins s σ H _ us Q I r ⟨_, rfl, ?_⟩
    have z : (if i < 0 then -i else i) = (i.natAbs : Nat) := by split <;> omega
    rw [z]
    exact h
  · exact h.elim
def uMax2 : List V → Hp → VK → Prop := fun xs H Q => match xs with
  | [.int i, .int j] => Q (.int (max i j)) H
  | _ => False
theorem uk_max2 (hc : X.calm = true) : CallR X (.builtin "max") uMax2 := by
  intro pins s σ H xs us Q I r h
  unfold uMax2 at h
  split at h
  · rename_i i j
    refine call_max2 hc pins s σ H _ us Q I r ⟨_, _, rfl, ?_⟩
    have z : (if j > i then j else i) = max i j := by split <;> omega
    rw [z]
    exact h
  · exact h.elim
def uMin2 : List V → Hp → VK → Prop := fun xs H Q => match xs with
  | [.int i, .int j] => Q (.int (min i j)) H
  | _ => False
theorem uk_min2 (hc : X.calm = true) : CallR X (.builtin "min") uMin2 := by
  intro pins s σ H xs us Q I r h
  unfold uMin2 at h
  split at h
  · rename_i i j
    refine call_min2 hc pins s σ H _ us Q I r ⟨_, _, rfl, ?_⟩
    have z : (if j < i then j else i) = min i j := by split <;> omega
    rw [z]
    exact h
  · exact h.elim
def b2z (b : Bool) : Int := if b then 1 else 0
def uInt : List V → Hp → VK → Prop := fun xs H Q => match xs with
  | [.int i] => Q (.int i) H
  | [.bl k] => Q (.int (b2z k)) H
  | _ => False
theorem uk_int : CallR X (.type "int") uInt := by
  intro pins s σ H xs us Q I r h
  unfold uInt at h
  split at h
  · exact call_int1 pins s σ H _ us Q I r (.inl ⟨_, rfl, h⟩)
  · exact call_int1 pins s σ H _ us Q I r (.inr ⟨_, rfl, h⟩)
  · exact h.elim
/-- a constant of the module's top -/
theorem pe_con {x : Str} {v : V} {pos : Pos} (hg : Gl X x) (h : ∃ u, X.mg x = some u ∧ RelV v u) (hd : (x == ("__debug__" : Str)) = false := by decide) : PE X (.Name x pos) (tC v) := by
  obtain ⟨u, hm, r⟩ := h
  exact pe_glob hg hm r hd
/-! ### isinstance by what the value is -/
/-- the kinds of values that we meet, as built-in types -/
inductive Ty : PySem.W.Frag → Hp → V → String → Prop where
  | non {K : PySem.W.Frag} {H : Hp} : Ty K H .non "NoneType"
  | bl {K : PySem.W.Frag} {H : Hp} (b : Bool) : Ty K H (.bl b) "bool"
  | int {K : PySem.W.Frag} {H : Hp} (i : Int) : Ty K H (.int i) "int"
  | str {K : PySem.W.Frag} {H : Hp} (z : Str) : Ty K H (.str z) "str"
  | lst {K : PySem.W.Frag} {H : Hp} {a : Addr} {xs : List V} (e : H a = some (.lst xs)) : Ty K H (.ref a) "list"
  | tup {K : PySem.W.Frag} {H : Hp} {a : Addr} {xs : List V} (e : H a = some (.tup xs)) : Ty K H (.ref a) "tuple"
theorem Ty.wide {K : PySem.W.Frag} {H : Hp} {v : V} {t : String} (h : Ty K H v t) : TyX K H v (.type t) := by
  cases h with
  | non => exact .base .non
  | bl b => exact .base (.bl b)
  | int i => exact .base (.int i)
  | str z => exact .base (.str z)
  | lst e => exact .base (.lst e)
  | tup e => exact .base (.tup e)
/-- isinstance(x, T), T a built-in type; x any value of ours -/
def uIs (K : PySem.W.Frag) : List V → Hp → VK → Prop := fun xs H Q => match xs with
  | [x, .ty T] => ∃ (t : String) (b : Bool), Ty K H x t ∧ kitB t T = some b ∧ Q (.bl b) H
  | _ => False
theorem uk_is : CallR X (.builtin "isinstance") (uIs X.K) := by
  intro pins s σ H xs us Q I r h
  unfold uIs at h
  split at h
  · obtain ⟨t, b, ty, e, q⟩ := h
    exact call_isi pins s σ H _ us Q I r ⟨_, _, _, _, b, rfl, .ty _, ty.wide, kit_ty e, q⟩
  · exact h.elim
end
end Bk
set_option Elab.async false
set_option linter.all false
set_option maxRecDepth 100000
set_option maxHeartbeats 4000000
/-! Bk5: the turns of a reading, one lemma a word. -/
namespace Bk
open PySem PySem.Spec PyProof.Rows L2
section
variable {D : Ends} {σ : L2.St} {H : Hp} {Q : VK} {K : PySem.W.Frag} {te ta tb tx : TE} {t u : TS} {c d : TT} {g : TG} {tr : TA} {v : V} {i j : Int} {n m : Nat} {r : R2} {gg : Int → Int → V} {C : Int → Int → Prop} {q : Bool → Hp → Prop} {b : Bool}
/-! statements -/
theorem g_seq (h : t { D with nx := u D } σ H) : tSeq t u D σ H := h
theorem g_asg (h : te σ H fun x H1 => g x σ H1 D.nx) : tAsg te g D σ H := h
theorem g_ret (h : te σ H D.rt) : tRet te D σ H := h
theorem g_retN (h : D.rt .non H) : tRetN D σ H := h
theorem g_drop (h : te σ H fun _ H1 => D.nx σ H1) : tDrop te D σ H := h
theorem g_ifs (h : c σ H fun b H1 => if b = true then t D σ H1 else u D σ H1) : tIfS c t u D σ H := h
theorem g_next (h : D.nx σ H) : tNext D σ H := h
theorem g_par {tA : TA} (h : tA σ H fun vs H1 => ∃ v w, vs = [v, w] ∧ D.nx ((σ.set n (some v)).set m (some w)) H1) : tPar n m tA D σ H := h
theorem g_pair {x y : V} {P : V → V → Prop} (h : P x y) : ∃ v w, [x, y] = [v, w] ∧ P v w := ⟨x, y, rfl, h⟩
theorem g_name {P : L2.St → Hp → Prop} (h : P (σ.set n (some v)) H) : gName n v σ H P := h
theorem g_sub {to ti : TE} {ts : TSet} {P : L2.St → Hp → Prop} (h : to σ H fun o H1 => ti σ H1 fun i H2 => ts o i v H2 fun H3 => P σ H3) : gSub to ti ts v σ H P := h
theorem g_setL {p : Addr} {xs : List V} {P : Hp → Prop} {k : Nat} (hp : H p = some (.lst xs)) (hk : ixN xs.length i = some k) (h : P (upd H p (.lst (xs.set k v)))) : rSetL (.ref p) (.int i) v H P := ⟨p, xs, i, k, rfl, rfl, hp, hk, h⟩
theorem g_tup2 {p : Addr} {x y : V} {t1 t2 : TG} {P : L2.St → Hp → Prop} (hp : H p = some (.tup [x, y])) (h : t1 x σ H fun σ1 H1 => t2 y σ1 H1 P) : gTup K 2 (gCons t1 (gCons t2 gNil)) (.ref p) σ H P := by
  refine ⟨p, [x, y], rfl, sqT hp, rfl, x, [y], rfl, ?_⟩
  have e : (fun σ' H' => gCons t2 gNil [y] σ' H' P) = fun σ1 H1 => t2 y σ1 H1 P := by
    funext σ1 H1
    apply propext
    constructor
    · rintro ⟨_, _, q, h⟩
      cases q
      have e2 : (fun σ' H' => gNil [] σ' H' P) = P := by
        funext σ2 H2
        exact propext ⟨fun z => z.2, fun z => ⟨rfl, z⟩⟩
      rw [e2] at h
      exact h
    · intro h
      refine ⟨y, [], rfl, ?_⟩
      have e2 : (fun σ' H' => gNil [] σ' H' P) = P := by
        funext σ2 H2
        exact propext ⟨fun z => z.2, fun z => ⟨rfl, z⟩⟩
      rw [e2]
      exact h
  rw [e]
  exact h
/-! expressions -/
theorem g_c (h : Q v H) : tC v σ H Q := h
theorem g_op (h : ta σ H fun x H1 => tb σ H1 fun y H2 => r x y H2 Q) : tOp r ta tb σ H Q := h
theorem g_un {f : V → Hp → VK → Prop} (h : ta σ H fun x H1 => f x H1 Q) : tUn f ta σ H Q := h
theorem g_cons {P : List V → Hp → Prop} (h : ta σ H fun x H1 => tr σ H1 fun xs H2 => P (x :: xs) H2) : tCons ta tr σ H P := h
theorem g_nil {P : List V → Hp → Prop} (h : P [] H) : tNil σ H P := h
theorem g_cb {f : List V → Hp → VK → Prop} (h : tr σ H fun vs H1 => f vs H1 Q) : tCB f tr σ H Q := h
theorem g_call {sp : Sp} {dvs : List V} {E : L2.St → XK} (h : tr σ H fun vs H1 => sp (vs ++ dvs) H1 Q (E σ)) : uCall sp dvs E tr σ H Q := h
theorem g_if (h : c σ H fun b H1 => if b = true then ta σ H1 Q else tb σ H1 Q) : tIf c ta tb σ H Q := h
theorem g_iT {A B : Prop} (h : A) : if true = true then A else B := by rw [if_pos rfl]; exact h
theorem g_iF {A B : Prop} (h : B) : if false = true then A else B := by rw [if_neg Bool.false_ne_true]; exact h
theorem g_iNT {A B : Prop} (h : B) : if (!true) = true then A else B := by rw [if_neg (by decide)]; exact h
theorem g_iNF {A B : Prop} (h : A) : if (!false) = true then A else B := by rw [if_pos (by decide)]; exact h
theorem g_isNn (h : Q (.bl true) H) : uIsN .non .non H Q := ⟨rfl, by rw [decide_eq_true rfl]; exact h⟩
theorem g_isNr {a : Addr} (h : Q (.bl false) H) : uIsN (.ref a) .non H Q := ⟨rfl, by rw [decide_eq_false (fun z => nomatch z)]; exact h⟩
theorem g_isNi (h : Q (.bl false) H) : uIsN (.int i) .non H Q := ⟨rfl, by rw [decide_eq_false (fun z => nomatch z)]; exact h⟩
theorem g_notNn (h : Q (.bl false) H) : uNotN .non .non H Q := ⟨rfl, by rw [decide_eq_true rfl]; exact h⟩
theorem g_notNr {a : Addr} (h : Q (.bl true) H) : uNotN (.ref a) .non H Q := ⟨rfl, by rw [decide_eq_false (fun z => nomatch z)]; exact h⟩
theorem g_notNi (h : Q (.bl true) H) : uNotN (.int i) .non H Q := ⟨rfl, by rw [decide_eq_false (fun z => nomatch z)]; exact h⟩
theorem g_notV (h : ta σ H fun x H1 => ∃ c, x = .bl c ∧ Q (.bl (!c)) H1) : tNotV ta σ H Q := h
theorem g_not (h : c σ H fun b H1 => q (!b) H1) : tNot c σ H q := h
theorem g_and (h : c σ H fun b H1 => if b = true then d σ H1 q else q false H1) : tAnd c d σ H q := h
theorem g_or (h : c σ H fun b H1 => if b = true then q true H1 else d σ H1 q) : tOr c d σ H q := h
theorem g_uT (h : te σ H fun x H1 => uTru K x H1 q) : uT K te σ H q := h
theorem g_test (h : te σ H fun x H1 => ∃ k, x = .bl k ∧ q k H1) : tTest te σ H q := h
theorem g_tB (h : te σ H fun x H1 => ∃ c, x = .bl c ∧ q c H1) : tB te σ H q := h
theorem g_bl {P : Bool → Prop} (h : P b) : ∃ k, V.bl b = .bl k ∧ P k := ⟨b, rfl, h⟩
theorem g_chain {r' : R2} (h : ta σ H fun x H1 => tb σ H1 fun y H2 => r x y H2 fun z H3 => ∃ k, z = .bl k ∧ (if k = true then tx σ H3 fun w' H4 => r' y w' H4 Q else Q (.bl false) H3)) : tChain r r' ta tb tx σ H Q := h
theorem g_andV (h : ta σ H fun x H1 => ∃ c, x = .bl c ∧ if c = true then tb σ H1 Q else Q (.bl false) H1) : tAndV ta tb σ H Q := h
theorem g_orV (h : ta σ H fun x H1 => ∃ c, x = .bl c ∧ if c = true then Q (.bl true) H1 else tb σ H1 Q) : tOrV ta tb σ H Q := h
theorem g_tbl (h : q b H) : uTru K (.bl b) H q := h
theorem g_tin (h : q (i != 0) H) : uTru K (.int i) H q := h
theorem g_addI (h : Q (.int (i + j)) H) : uAdd K (.int i) (.int j) H Q := h
theorem g_i0 (h : Q (gg i j) H) : uI0 gg (.int i) (.int j) H Q := h
theorem g_i (h : Q (gg i j) H) (hc : C i j) : uI C gg (.int i) (.int j) H Q := ⟨hc, h⟩
theorem g_neg (h : Q (.int (-i)) H) : uNeg (.int i) H Q := h
theorem g_eqI (h : Q (.bl (decide (V.int i = V.int j))) H) : rEq (.int i) (.int j) H Q := ⟨rfl, h⟩
theorem g_neI (h : Q (.bl (!decide (V.int i = V.int j))) H) : rNe (.int i) (.int j) H Q := ⟨rfl, h⟩
theorem g_eqS {x y : Str} (h : Q (.bl (decide (V.str x = V.str y))) H) : rEq (.str x) (.str y) H Q := ⟨rfl, h⟩
theorem g_neS {x y : Str} (h : Q (.bl (!decide (V.str x = V.str y))) H) : rNe (.str x) (.str y) H Q := ⟨rfl, h⟩
theorem g_neB {x y : Bool} (h : Q (.bl (!decide (V.bl x = V.bl y))) H) : rNe (.bl x) (.bl y) H Q := ⟨rfl, h⟩
theorem g_abs (h : Q (.int (i.natAbs : Nat)) H) : uAbs [.int i] H Q := h
theorem g_max (h : Q (.int (max i j)) H) : uMax2 [.int i, .int j] H Q := h
theorem g_min (h : Q (.int (min i j)) H) : uMin2 [.int i, .int j] H Q := h
theorem g_intI (h : Q (.int i) H) : uInt [.int i] H Q := h
theorem g_intB (h : Q (.int (b2z b)) H) : uInt [.bl b] H Q := h
theorem g_is {x : V} {T t : String} (ty : Ty K H x t) (e : kitB t T = some b) (h : Q (.bl b) H) : uIs K [x, .ty T] H Q := ⟨t, b, ty, e, h⟩
theorem g_lenL {p : Addr} {xs : List V} (hp : H p = some (.lst xs)) (h : Q (.int (xs.length : Nat)) H) : uLen K [.ref p] H Q := ⟨xs.length, .inl ⟨xs, .inl (sqL hp), rfl⟩, h⟩
theorem g_lenT {p : Addr} {xs : List V} (hp : H p = some (.tup xs)) (h : Q (.int (xs.length : Nat)) H) : uLen K [.ref p] H Q := ⟨xs.length, .inl ⟨xs, .inr (sqT hp), rfl⟩, h⟩
theorem g_lenSq {p : Addr} {xs : List V} (hp : SqL K H p xs) (h : Q (.int (xs.length : Nat)) H) : uLen K [.ref p] H Q := ⟨xs.length, .inl ⟨xs, .inl hp, rfl⟩, h⟩
theorem g_ixL {p : Addr} {xs : List V} (hp : H p = some (.lst xs)) (e : atI xs i = some v) (h : Q v H) : uIx K (.ref p) (.int i) H Q := ⟨xs, v, .inl (sqL hp), e, h⟩
theorem g_ixT {p : Addr} {xs : List V} (hp : H p = some (.tup xs)) (e : atI xs i = some v) (h : Q v H) : uIx K (.ref p) (.int i) H Q := ⟨xs, v, .inr (sqT hp), e, h⟩
theorem g_ixSq {p : Addr} {xs : List V} (hp : SqL K H p xs) (e : atI xs i = some v) (h : Q v H) : uIx K (.ref p) (.int i) H Q := ⟨xs, v, .inl hp, e, h⟩
theorem g_tup (h : tr σ H fun xs H1 => xs.length ≤ sizeLine ∧ ∀ p, H1 p = none → Q (.ref p) (upd H1 p (.tup xs))) : tTup tr σ H Q := h
theorem g_lst (h : tr σ H fun xs H1 => xs.length ≤ sizeLine ∧ ∀ p, H1 p = none → Q (.ref p) (upd H1 p (.lst xs))) : tLst tr σ H Q := h
theorem g_new {xs : List V} {P : Prop} (h : P) (hl : Nat.ble xs.length 1000 = true := by rfl) : xs.length ≤ sizeLine ∧ P := ⟨Nat.le_of_lt (small1000 (Nat.le_of_ble_eq_true hl)), h⟩
theorem g_for {wi : TI} {tb : TS} {D : Ends} {σ : L2.St} {H : Hp} (h : wi σ H fun J H1 => ∃ W : Nat → Nat → L2.St → Hp → Prop, (∃ m, W 0 m σ H1) ∧ ∀ i m σ H, W i m σ H →
  (J.stop i H ∧ D.nx σ H) ∨ (J.go i H ∧ ∃ N : L2.St → Hp → Prop, (∀ σ' H', N σ' H' → ∃ m', m' < m ∧ W (i + 1) m' σ' H') ∧ ∀ x H', J.yld i H x H' → g x σ H' fun σ2 H2 => tb { D with nx := N, ct := N, bk := D.nx } σ2 H2)) : tFor wi g tb D σ H := h
theorem g_rng1 {R : It → Hp → Prop} (h : tr σ H fun vs H1 => ∃ j : Int, vs = [.int j] ∧ -(2 ^ 62) ≤ j ∧ j < 2 ^ 62 ∧ R (Itr 0 j.toNat) H1) : iRng1 tr σ H R := h
theorem g_rng2 {R : It → Hp → Prop} (h : tr σ H fun vs H1 => ∃ i j : Int, vs = [.int i, .int j] ∧ (-(2 ^ 62) ≤ i ∧ i < 2 ^ 62 ∧ -(2 ^ 62) ≤ j ∧ j < 2 ^ 62) ∧ R (Itr i (j - i).toNat) H1) : iRng2 tr σ H R := h
theorem g_bm0 {T : String} {f : V → List V → Hp → VK → Prop} (h : ta σ H fun x H1 => tyV K T x H1 ∧ f x [] H1 Q) : tBM0 K T f ta σ H Q := h
theorem g_bm {T : String} {f : V → List V → Hp → VK → Prop} (h : ta σ H fun x H1 => tyV K T x H1 ∧ tr σ H1 fun xs H2 => f x xs H2 Q) : tBM K T f ta tr σ H Q := h
theorem g_tyL {p : Addr} {xs : List V} {P : Prop} (hp : H p = some (.lst xs)) (h : P) : tyV K "list" (.ref p) H ∧ P := ⟨.inl ⟨rfl, xs, sqL hp⟩, h⟩
theorem g_app {p : Addr} {xs : List V} (hp : H p = some (.lst xs)) (hz : xs.length < sizeLine) (h : Q .non (upd H p (.lst (xs ++ [v])))) : rAppend (.ref p) [v] H Q := ⟨p, xs, v, rfl, rfl, hp, hz, h⟩
end
/-- the rest of a while's turn: it ends where W stands with less -/
def WN (W : Nat → L2.St → Hp → Prop) (m : Nat) (tb : TS) (D : Ends) (σ : L2.St) (H : Hp) : Prop := ∃ N : L2.St → Hp → Prop, (∀ σ' H', N σ' H' → ∃ m', m' < m ∧ W m' σ' H') ∧ tb { D with nx := N, ct := N, bk := D.nx } σ H
theorem g_wn {W : Nat → L2.St → Hp → Prop} {m : Nat} {tb : TS} {D : Ends} {σ : L2.St} {H : Hp} (h : tb { D with nx := fun σ' H' => ∃ m', m' < m ∧ W m' σ' H', ct := fun σ' H' => ∃ m', m' < m ∧ W m' σ' H', bk := D.nx } σ H) : WN W m tb D σ H := ⟨_, fun _ _ z => z, h⟩
/-- while, by a word that bears its measure -/
theorem g_while {c : TT} {tb : TS} {D : Ends} {σ : L2.St} {H : Hp} (W : Nat → L2.St → Hp → Prop) (m0 : Nat) (h0 : W m0 σ H) (hs : ∀ m σ H, W m σ H → c σ H fun b H1 => if b = true then WN W m tb D σ H1 else D.nx σ H1) : tWhile c tb D σ H :=
  ⟨W, ⟨m0, h0⟩, hs⟩
end Bk
set_option Elab.async false
set_option linter.all false
set_option maxRecDepth 100000
set_option maxHeartbeats 4000000
/-! Bk6: what all laws share: tests, boxes of draws, the law's own end. -/
namespace Bk
open PySem PySem.Spec PyProof.Rows L2
/-! ### tests -/
section
variable {A B : Prop} {i j : Int}
theorem i_d {p : Prop} [Decidable p] (h1 : p → A) (h2 : ¬ p → B) : if decide p = true then A else B := by
  by_cases h : p
  · rw [if_pos (decide_eq_true h)]; exact h1 h
  · rw [if_neg (by simp [h])]; exact h2 h
theorem i_n {p : Prop} [Decidable p] (h1 : ¬ p → A) (h2 : p → B) : if (!decide p) = true then A else B := by
  by_cases h : p
  · rw [if_neg (by simp [h])]; exact h2 h
  · rw [if_pos (by simp [h])]; exact h1 h
theorem i_b {b : Bool} (h1 : b = true → A) (h2 : b = false → B) : if b = true then A else B := by
  cases b with
  | true => rw [if_pos rfl]; exact h1 rfl
  | false => rw [if_neg Bool.false_ne_true]; exact h2 rfl
theorem i_eqI (h1 : i = j → A) (h2 : i ≠ j → B) : if decide (V.int i = V.int j) = true then A else B := i_d (fun h => h1 (V.int.inj h)) fun h => h2 fun e => h (congrArg V.int e)
theorem i_neI (h1 : i ≠ j → A) (h2 : i = j → B) : if (!decide (V.int i = V.int j)) = true then A else B := i_n (fun h => h1 fun e => h (congrArg V.int e)) fun h => h2 (V.int.inj h)
theorem i_eqS {x y : Str} (h1 : x = y → A) (h2 : x ≠ y → B) : if decide (V.str x = V.str y) = true then A else B := i_d (fun h => h1 (V.str.inj h)) fun h => h2 fun e => h (congrArg V.str e)
theorem i_neS {x y : Str} (h1 : x ≠ y → A) (h2 : x = y → B) : if (!decide (V.str x = V.str y)) = true then A else B := i_n (fun h => h1 fun e => h (congrArg V.str e)) fun h => h2 (V.str.inj h)
end
/-- a statement that is never reached -/
theorem ps_no {X : Cx} {st : Stmt} : PS X st (fun _ _ _ => False) := ⟨fun _ _ _ _ _ _ h => h.elim⟩
/-! ### the structure's small parts -/
theorem exm_self {K : PySem.W.Frag} {S : Addr} (h1 : PySem.W.subIn K (.ref S) (.type "BaseException") = some true) (h2 : PySem.W.isClsIn K S = true) (h3 : PySem.W.typeIn K (.ref S) = some (.type "type")) (h4 : PySem.W.subIn K (.ref S) (.ref S) = some true) :
    PySem.W.exmOne K (.ref S) (.ref S) = some true := by
  have a : (PySem.W.subIn K (.ref S) (.type "BaseException") == some true) = true := by rw [h1] <;> rfl
  have b : ((PySem.W.clsIn K S).isSome && PySem.W.typeIn K (.ref S) == some (.type "type")) = true := by
    have z : (PySem.W.clsIn K S).isSome = true := h2
    rw [z, h3] <;> rfl
  show (if (PySem.W.subIn K (.ref S) (.type "BaseException") == some true) = true then (if ((PySem.W.clsIn K S).isSome && PySem.W.typeIn K (.ref S) == some (.type "type")) = true then PySem.W.subIn K (.ref S) (.ref S) else none) else none) = some true
  rw [if_pos a, if_pos b]
  exact h4
theorem binds_all {K : PySem.W.Frag} {fd : FuncData} {ps : List Str} (h : ∃ ds, Vals [] ds ∧ Binds K fd ps ds) : Binds K fd ps [] := by
  obtain ⟨ds, r, b⟩ := h
  cases r
  exact b
/-- what a law promises -/
def spLaw (K : PySem.W.Frag) : Sp := fun vs H Q _ => ∃ (a : Addr) (ns : List Int), vs = [.ref a] ∧ SqL K H a (ns.map V.int) ∧ ns.length ≤ 63 ∧ ∀ H', Q (.bl true) H'
theorem spLaw_of {K : PySem.W.Frag} {H : Hp} {a : Addr} {ns : List Int} (_ : Only H) (hS : SqL K H a (ns.map V.int)) (hl : ns.length ≤ 63) : spLaw K [.ref a] H (fun v _ => v = .bl true) fun _ _ _ => False := ⟨a, ns, rfl, hS, hl, fun _ => rfl⟩
theorem cx_false {P : Program} {w : World} {H : Hp} {s s' : Shared} {e : Value} (h : L2.CX P w [] H s (fun _ _ _ => False) e s') : False := by
  obtain ⟨_, _, _, _, _, _, _, _, _, _, _, _, z⟩ := h
  exact z
/-! ### a box of draws -/
def Box (H : Hp) (p : Addr) : Prop := ∃ a b c : Int, H p = some (.lst [.int a, .int b, .int c])
theorem Box.ex {H H' : Hp} {p : Addr} (b : Box H p) (e : Ex H H') : Box H' p := by
  obtain ⟨x, y, z, h⟩ := b
  exact ⟨x, y, z, e _ _ h⟩
theorem Box.but {H H' : Hp} {p l : Addr} (b : Box H p) (e : But l H H') (n : p ≠ l) : Box H' p := by
  obtain ⟨x, y, z, h⟩ := b
  exact ⟨x, y, z, e _ _ n h⟩
/-- take(box, m): a number from 0 to m - 1 -/
def spTake : Sp := fun vs H Q _ => ∃ (p : Addr) (m : Int), vs = [.ref p, .int m] ∧ Box H p ∧ 0 < m ∧ m.natAbs.log2 < 9000 ∧ ∀ (d : Int) (H' : Hp), 0 ≤ d → d < m → But p H H' → Box H' p → Q (.int d) H'
/-- box(script, k): a new box -/
def spBox (K : PySem.W.Frag) : Sp := fun vs H Q _ => ∃ (s : Addr) (ns : List Int) (k : Nat), vs = [.ref s, .int (k : Int)] ∧ SqL K H s (ns.map V.int) ∧ ns.length ≤ 63 ∧ ∀ (p : Addr) (H' : Hp), H p = none → Ex H H' → Box H' p → Q (.ref p) H'
theorem fmod_pos {a m : Int} (h : 0 < m) : 0 ≤ a.fmod m ∧ a.fmod m < m := by
  rw [Int.fmod_eq_emod_of_nonneg a (Int.le_of_lt h)]
  exact ⟨Int.emod_nonneg _ (Int.ne_of_gt h), Int.emod_lt_of_pos _ h⟩
theorem at_ints {ns : List Int} {i : Nat} (h : i < ns.length) : atI (ns.map V.int) (i : Int) = some (.int ns[i]) := atI_nat (by rw [List.getElem?_map, List.getElem?_eq_getElem h]; rfl)
end Bk
set_option Elab.async false
set_option linter.all false
set_option maxRecDepth 100000
set_option maxHeartbeats 4000000
/-! Bk7: sizes of numbers, the found pair's parts, values told apart. -/
namespace Bk
open PySem PySem.Spec PyProof.Rows L2
/-- within n bits -/
def Bits (n : Nat) (i : Int) : Prop := i.natAbs < 2 ^ n
instance instBits (n : Nat) (i : Int) : Decidable (Bits n i) := inferInstanceAs (Decidable (i.natAbs < 2 ^ n))
theorem Bits.le {n m : Nat} {i : Int} (h : Bits n i) (hm : n ≤ m := by decide) : Bits m i := Nat.lt_of_lt_of_le h (Nat.pow_le_pow_right (by decide) hm)
theorem Bits.of_le {n : Nat} {i j : Int} (h : Bits n j) (g : i.natAbs ≤ j.natAbs) : Bits n i := Nat.lt_of_le_of_lt g h
theorem Bits.log {n : Nat} {i : Int} (h : Bits n i) (hn : 0 < n := by decide) : i.natAbs.log2 < n := by
  by_cases c : i.natAbs = 0
  · rw [c]
    exact hn
  · exact (Nat.log2_lt c).2 h
theorem Bits.cm {n m : Nat} {i j : Int} (h : Bits n i) (g : Bits m j) (hn : n ≤ 1000 := by decide) (hm : m ≤ 900000 := by decide) : CMm i j := by
  refine .inr (mulL ?_ ?_)
  · exact (h.le hn).log
  · by_cases c : j.natAbs = 0
    · rw [c]
      decide
    · exact Nat.lt_of_lt_of_le ((Nat.log2_lt c).2 g) hm
theorem Bits.fd {n : Nat} {i j : Int} (h : Bits n j) (h0 : j ≠ 0) (hn : n ≤ 9000 := by decide) : CFd i j := by
  refine ⟨h0, ?_⟩
  exact Nat.lt_of_lt_of_le ((Nat.log2_lt (by omega)).2 h) hn
theorem fdiv_le {i j : Int} (h : j ≠ 0) (d : j ∣ i) : (i.fdiv j).natAbs ≤ i.natAbs := by
  rw [Int.fdiv_eq_ediv_of_dvd d]
  exact Int.natAbs_ediv_le_natAbs _ _
theorem Bits.of_fdiv {n : Nat} {i j : Int} (b : Bits n i) (h : j ≠ 0) (d : j ∣ i) : Bits n (i.fdiv j) := b.of_le (fdiv_le h d)
theorem gcd_bits {n : Nat} {u l : Int} (h : l ≠ 0) (b : Bits n l) : Bits n (Int.gcd u l : Nat) := by
  refine b.of_le ?_
  rw [Int.natAbs_natCast]
  exact Nat.le_of_dvd (by omega) (Nat.gcd_dvd_right u.natAbs l.natAbs)
/-- what the two parts are divided by -/
def fpt (u l : Int) : Int := if l < 0 then 0 - (Int.gcd u l : Nat) else (Int.gcd u l : Nat)
theorem fpt_ne {u l : Int} (h : l ≠ 0) : fpt u l ≠ 0 := by
  have e : Int.gcd u l ≠ 0 := fun z => h (Int.gcd_eq_zero_iff.1 z).2
  unfold fpt
  split <;> omega
theorem fpt_bits {n : Nat} {u l : Int} (h : l ≠ 0) (b : Bits n l) : Bits n (fpt u l) := by
  have g := gcd_bits (u := u) h b
  unfold fpt
  split
  · unfold Bits at *
    omega
  · exact g
theorem fpt_l (u l : Int) : fpt u l ∣ l := by
  unfold fpt
  split
  · rw [Int.zero_sub]
    exact Int.neg_dvd.2 (Int.gcd_dvd_right u l)
  · exact Int.gcd_dvd_right u l
theorem fpt_u (u l : Int) : fpt u l ∣ u := by
  unfold fpt
  split
  · rw [Int.zero_sub]
    exact Int.neg_dvd.2 (Int.gcd_dvd_left u l)
  · exact Int.gcd_dvd_left u l
/-- u / l in lowest terms -/
def fru (u l : Int) : Int := u.fdiv (fpt u l)
def frl (u l : Int) : Int := l.fdiv (fpt u l)
theorem fru_bits {n : Nat} {u l : Int} (h : l ≠ 0) (b : Bits n u) : Bits n (fru u l) := b.of_fdiv (fpt_ne h) (fpt_u u l)
theorem frl_bits {n : Nat} {u l : Int} (h : l ≠ 0) (b : Bits n l) : Bits n (frl u l) := b.of_fdiv (fpt_ne h) (fpt_l u l)
theorem frl_pos {u l : Int} (h : l ≠ 0) : 0 < frl u l := by
  have e : frl u l * fpt u l = l := by
    unfold frl
    rw [Int.fdiv_eq_ediv_of_dvd (fpt_l u l)]
    exact Int.ediv_mul_cancel (fpt_l u l)
  have g : 0 < Int.gcd u l := Nat.pos_of_ne_zero fun z => h (Int.gcd_eq_zero_iff.1 z).2
  by_cases c : l < 0
  · have f : fpt u l = 0 - (Int.gcd u l : Nat) := if_pos c
    rw [f] at e
    by_cases k : 0 < frl u l
    · exact k
    · exfalso
      have : 0 ≤ frl u l * (0 - (Int.gcd u l : Nat)) := Int.mul_nonneg_of_nonpos_of_nonpos (by omega) (by omega)
      omega
  · have f : fpt u l = (Int.gcd u l : Nat) := if_neg c
    rw [f] at e
    by_cases k : 0 < frl u l
    · exact k
    · exfalso
      have : frl u l * (Int.gcd u l : Nat) ≤ 0 := Int.mul_nonpos_of_nonpos_of_nonneg (by omega) (by omega)
      omega
def spFrac (CN : Addr) : Sp := fun vs H Q E => ∃ u l : Int, vs = [.int u, .int l] ∧ Bits 2000 u ∧ Bits 2000 l ∧ (l = 0 → E (.ref CN) none H) ∧ (l ≠ 0 → ∀ p, H p = none → Q (.ref p) (upd H p (.tup [.int (fru u l), .int (frl u l)])))
end Bk
set_option Elab.async false
set_option linter.all false
set_option maxRecDepth 100000
set_option maxHeartbeats 4000000
/-! Bk8: two values of one reading are alike: what the laws' comparison needs. -/
namespace Bk
open PySem PySem.Spec PyProof.Rows L2
def D.tag : D → String
  | .non => "NoneType" | .bl _ => "bool" | .int _ => "int" | .str _ => "str" | .tup _ => "tuple" | .lst _ => "list"
def D.isT : D → Bool
  | .tup _ => true | _ => false
def D.isL : D → Bool
  | .lst _ => true | _ => false
def D.isB : D → Bool
  | .bl _ => true | _ => false
def D.isI : D → Bool
  | .int _ => true | .bl _ => true | _ => false
theorem Rep.ty {K : PySem.W.Frag} {H : Hp} {d : D} {v : V} (h : Rep H d v) : Ty K H v d.tag := by
  cases d <;> simp only [Rep] at h
  · subst h; exact .non
  · subst h; exact .bl _
  · subst h; exact .int _
  · subst h; exact .str _
  · obtain ⟨a, vs, rfl, e, _⟩ := h; exact .tup e
  · obtain ⟨a, vs, rfl, e, _⟩ := h; exact .lst e
theorem kit_tup (d : D) : kitB d.tag "tuple" = some d.isT := by cases d <;> simp only [D.tag, D.isT, D.isL, D.isB, D.isI] <;> decide +kernel
theorem kit_bl (d : D) : kitB d.tag "bool" = some d.isB := by cases d <;> simp only [D.tag, D.isT, D.isL, D.isB, D.isI] <;> decide +kernel
theorem kit_int (d : D) : kitB d.tag "int" = some d.isI := by cases d <;> simp only [D.tag, D.isT, D.isL, D.isB, D.isI] <;> decide +kernel
section
variable {K : PySem.W.Frag} {H H0 H1 H2 : Hp} {Q : VK} {d : D} {v w : V}
theorem g_isD {T : String} {b : Bool} (r : Rep H d v) (e : kitB d.tag T = some b) (h : Q (.bl b) H) : uIs K [v, .ty T] H Q := ⟨_, b, r.ty, e, h⟩
theorem g_neBB {b : Bool} (h : Q (.bl false) H) : rNe (.bl b) (.bl b) H Q := ⟨rfl, by rw [decide_eq_true rfl]; exact h⟩
theorem g_neD (r : Rep H0 d v) (r' : Rep H0 d w) (ht : (d.isT || d.isL) = false) (h : Q (.bl false) H) : rNe v w H Q := by
  cases d <;> simp only [Rep] at r r'
  · subst r; subst r'; exact ⟨rfl, by rw [decide_eq_true rfl]; exact h⟩
  · subst r; subst r'; exact ⟨rfl, by rw [decide_eq_true rfl]; exact h⟩
  · subst r; subst r'; exact ⟨rfl, by rw [decide_eq_true rfl]; exact h⟩
  · subst r; subst r'; exact ⟨rfl, by rw [decide_eq_true rfl]; exact h⟩
  · cases ht
  · cases ht
theorem g_pop {l : Addr} {xs : List V} {y : V} (hl : H l = some (.lst (xs ++ [y]))) (h : Q y (upd H l (.lst xs))) : rPop (.ref l) [] H Q := by
  refine ⟨l, _, y, rfl, rfl, hl, ?_, ?_⟩
  · rw [List.length_append, List.length_singleton, Nat.add_sub_cancel, List.getElem?_append_right (Nat.le_refl _), Nat.sub_self]
    rfl
  · rw [List.dropLast_concat]
    exact h
theorem g_ext {l b : Addr} {xs zs : List V} (hl : H l = some (.lst xs)) (hb : H b = some (.lst zs)) (hz : xs.length + zs.length ≤ 1000000) (h : Q .non (upd H l (.lst (xs ++ zs)))) : rExtend (.ref l) [.ref b] H Q :=
  ⟨l, b, xs, zs, rfl, rfl, hl, hb, Nat.le_trans hz (by decide), h⟩
end
section
variable {K : PySem.W.Frag} {H H0 H1 H2 : Hp} {Q : VK} {d : D} {v w : V}
theorem Reps.len2 {ds : List D} {xs ys : List V} (h : Reps H ds xs) (h' : Reps H ds ys) : xs.length = ys.length := h.len.trans h'.len.symm
theorem g_lz {ta : TA} {σ : L2.St} (h : ta σ H fun vs H1 => ∃ a b xs ys, vs = [.ref a, .ref b] ∧ xs.length = ys.length ∧ ((SqT K H1 a xs ∧ SqT K H1 b ys) ∨ (SqL K H1 a xs ∧ SqL K H1 b ys)) ∧
  ∀ (H' : Hp) (p : Addr) (ts : List Addr), Ex H1 H' → H1 p = none → (∀ t ∈ ts, H1 t = none) → p ∉ ts → H' p = some (.lst (ts.map V.ref)) → Prz H' ts xs ys → Q (.ref p) H') : uLZ K ta σ H Q := h
end
/-- a pair of two of one reading -/
def Pr (H0 H1 : Hp) (d : D) (t : V) : Prop := ∃ a v w, t = .ref a ∧ H1 a = some (.tup [v, w]) ∧ Rep H0 d v ∧ Rep H0 d w
/-- a pile of such, of a size in all -/
inductive PrS (H0 H1 : Hp) : Nat → List V → Prop where
  | nil : PrS H0 H1 0 []
  | snoc {n : Nat} {ts : List V} {d : D} {t : V} (h : PrS H0 H1 n ts) (r : Pr H0 H1 d t) : PrS H0 H1 (n + d.size) (ts ++ [t])
theorem PrS.len {H0 H1 : Hp} {n : Nat} {ts : List V} (h : PrS H0 H1 n ts) : ts.length ≤ n := by
  induction h with
  | nil => exact Nat.le_refl _
  | @snoc n ts d t h r ih =>
    have := d.size_pos
    rw [List.length_append, List.length_singleton]
    omega
theorem PrS.tk {H0 H1 H2 : Hp} {n : Nat} {ts : List V} (e : Tk H1 H2) (h : PrS H0 H1 n ts) : PrS H0 H2 n ts := by
  induction h with
  | nil => exact .nil
  | snoc h r ih =>
    obtain ⟨a, v, w, rfl, ha, rv, rw'⟩ := r
    exact .snoc ih ⟨a, v, w, rfl, e _ _ ha, rv, rw'⟩
theorem PrS.ext {H0 H1 : Hp} : ∀ {ds : List D} {xs ys : List V} {tl : List Addr} {n : Nat} {ts : List V}, Reps H0 ds xs → Reps H0 ds ys → Prz H1 tl xs ys → PrS H0 H1 n ts → PrS H0 H1 (n + D.sizes ds) (ts ++ tl.map V.ref)
  | [], xs, ys, tl, n, ts, hx, hy, hp, h => by
    simp only [Reps] at hx hy
    subst hx
    have e : tl = [] := List.eq_nil_of_length_eq_zero hp.1
    subst e
    simpa [D.sizes] using h
  | d :: ds, xs, ys, tl, n, ts, hx, hy, hp, h => by
    simp only [Reps] at hx hy
    obtain ⟨x, xr, rfl, rx, hx⟩ := hx
    obtain ⟨y, yr, rfl, ry, hy⟩ := hy
    cases tl with
    | nil => cases hp.1
    | cons t tl =>
      obtain ⟨x', y', ex, ey, ht⟩ := hp.2 0 t rfl
      cases ex
      cases ey
      have hp' : Prz H1 tl xr yr := ⟨Nat.succ.inj hp.1, fun j u hu => by
        obtain ⟨a, b, q⟩ := hp.2 (j + 1) u hu
        exact ⟨a, b, q⟩⟩
      have z := PrS.ext hx hy hp' (h.snoc ⟨t, x, y, rfl, ht, rx, ry⟩)
      have e1 : n + D.sizes (d :: ds) = n + d.size + D.sizes ds := by simp only [D.sizes]; omega
      have e2 : ts ++ (t :: tl).map V.ref = ts ++ [V.ref t] ++ tl.map V.ref := by simp
      rw [e1, e2]
      exact z
theorem prz_len {H : Hp} {ts : List Addr} {xs ys : List V} (h : Prz H ts xs ys) : (ts.map V.ref).length = xs.length := by rw [List.length_map]; exact h.1
theorem sizes_len : ∀ ds : List D, ds.length ≤ D.sizes ds
  | [] => Nat.le_refl _
  | d :: ds => by
    have := sizes_len ds
    have := d.size_pos
    simp only [D.sizes, List.length_cons]
    omega
/-! ### isinstance of a caught error -/
/-! ### lowest terms, as the laws find them -/
theorem b2z_bits (b : Bool) : Bits 1 (b2z b) := by cases b <;> decide
theorem Rep.two {H : Hp} {a : Addr} {x y : V} {d e : D} (h : H a = some (.tup [x, y])) (r : Rep H d x) (s : Rep H e y) : Rep H (.tup [d, e]) (.ref a) := by
  simp only [Rep, Reps]
  exact ⟨a, _, rfl, h, x, _, rfl, r, y, _, rfl, s, rfl⟩
theorem Rep.i {H : Hp} (n : Int) : Rep H (.int n) (.int n) := by simp only [Rep]
theorem Rep.s {H : Hp} (n : Str) : Rep H (.str n) (.str n) := by simp only [Rep]
theorem Rep.b {H : Hp} (n : Bool) : Rep H (.bl n) (.bl n) := by simp only [Rep]
theorem Rep.n {H : Hp} : Rep H .non .non := by simp only [Rep]
/-- a fraction of the laws, as it stands -/
def Fr (H : Hp) (p : Addr) (a b : Int) : Prop := H p = some (.tup [.int a, .int b]) ∧ Bits 300 a ∧ Bits 300 b ∧ 0 < b
/-- such a one, as a value -/
def Good (H : Hp) (v : V) : Prop := ∃ (p : Addr) (a b : Int), v = .ref p ∧ Fr H p a b
theorem Good.ex {H H' : Hp} {v : V} (e : Ex H H') (g : Good H v) : Good H' v := by
  obtain ⟨p, a, b, rfl, h, x⟩ := g
  exact ⟨p, a, b, rfl, e _ _ h, x⟩
theorem Good.tk {H H' : Hp} {v : V} (e : Tk H H') (g : Good H v) : Good H' v := by
  obtain ⟨p, a, b, rfl, h, x⟩ := g
  exact ⟨p, a, b, rfl, e _ _ h, x⟩
theorem Good.fr {H : Hp} {p : Addr} {u l : Int} (h : H p = some (.tup [.int (fru u l), .int (frl u l)])) (hl : l ≠ 0) (bu : Bits 300 u) (bl : Bits 300 l) : Good H (.ref p) := ⟨p, _, _, rfl, h, fru_bits hl bu, frl_bits hl bl, frl_pos hl⟩
section
variable {K : PySem.W.Frag} {H : Hp} {Q : VK} {σ : L2.St}
theorem g_sl {r : V → Option Int → Option Int → Hp → VK → Prop} {te : TE} {tl th : TO} (h : te σ H fun x H1 => tl σ H1 fun l H2 => th σ H2 fun u H3 => r x l u H3 Q) : tSl r te tl th σ H Q := h
theorem g_noP {P : Option Int → Hp → Prop} (h : P none H) : tNoPart σ H P := h
theorem g_catL {a b : Addr} {xs ys : List V} (ha : H a = some (.lst xs)) (hb : H b = some (.lst ys)) (hl : xs.length + ys.length ≤ 1000000) (h : ∀ p, H p = none → Q (.ref p) (upd H p (.lst (xs ++ ys)))) : uAdd K (.ref a) (.ref b) H Q :=
  .inl ⟨a, b, xs, ys, rfl, rfl, ha, hb, Nat.le_trans hl (by decide), h⟩
theorem g_part {te : TE} {P : Option Int → Hp → Prop} (h : te σ H fun x H1 => ∃ i, x = .int i ∧ P (some i) H1) : tPart te σ H P := h
theorem g_exI {i : Int} {P : Int → Prop} (h : P i) : ∃ j, V.int i = .int j ∧ P j := ⟨i, rfl, h⟩
end
theorem g_zipA {K : PySem.W.Frag} {ta : TA} {σ : L2.St} {H : Hp} {R : It → Hp → Prop} (h : ta σ H fun vs H1 => ∃ a b xs ys, vs = [.ref a, .ref b] ∧ ((SqL K H1 a xs ∧ SqL K H1 b ys ∧ R (Itz K a b) H1) ∨ (SqT K H1 a xs ∧ SqT K H1 b ys ∧ R (RZ.ItzT K a b) H1))) : RZ.iZipA K ta σ H R := h
theorem cutV_mem {xs : List V} {lo hi : Option Int} {v : V} (h : v ∈ cutV xs lo hi) : v ∈ xs := List.mem_of_mem_drop (List.mem_of_mem_take h)
end Bk
set_option Elab.async false
set_option linter.all false
set_option maxRecDepth 100000
set_option maxHeartbeats 4000000
/-! Bk9: enumerate over a tuple. -/
namespace Bk
open PySem PySem.Spec PyProof.Rows L2
open AutoSeq1 (wpAny_loadPart')
def tupO (dct : Option Addr) (xs : Array Value) (n : Nat) (sl : Array (Option Value)) : Obj := { cls := .type "tuple", dict := dct, data := .seq xs n, slots := sl }
def tuiO (l : Addr) : Obj := { cls := .type "tuple_iterator", data := .fields #[.ref l, .int 0 0] }
def enuO (i : Addr) : Obj := { cls := .type "enumerate", data := .fields #[.none, .bool false, .ref i, rawInt 0, .none, .none] }
theorem meets_enumT (l : Addr) (xs : Array Value) (n : Nat) (dct : Option Addr) (sl : Array (Option Value)) :
    Meets (Builtin.«enumerate.__new__» ⟨[.type "enumerate", .ref l], []⟩) (fun _ R s => s.heap.get? l = some (tupO dct xs n sl) ∧ R (.ok (.ret (.ref (s.heap.push (tuiO l)).objs.size))) { s with heap := (s.heap.push (tuiO l)).push (enuO s.heap.objs.size) }) :=
  .of_wp fun prog w A R s z => by
    obtain ⟨hp, ge, dr, tk, os⟩ := s
    obtain ⟨hl, h⟩ := z
    have s0 := sub_enumerate
    unfold tupO at hl
    have hT : Heap.IsTuple (Shared.heap ⟨hp, ge, dr, tk, os⟩) l xs := ⟨_, hl, rfl, n, rfl⟩
    wp_walk using (wpAny_loadPart' hl)
    (refine wpAny_stack_any fun st => wpAny_pure ?_); split
    · rename_i c _ _ _ _ _
      cases (c == Value.type "enumerate") <;> (wp_walk using (wpAny_loadPart' hl), (wpAny_pyIter_tuple hT)) <;> exact ⟨_, rfl, h⟩
    · wp_walk using (wpAny_loadPart' hl), (wpAny_pyIter_tuple hT)
      exact ⟨_, rfl, h⟩
section
variable {prog : Program} {w : World} {A : Around} {E : Value → Shared → Prop} {s : Shared}
theorem call_enumT {l : Addr} {xs : Array Value} {Q : Value → Shared → Prop} (hT : s.heap.IsTuple l xs)
    (h : ∀ g, IsEnum g (s.heap.objs.size + 1) s.heap.objs.size 0 .none → g.IsTupleIter s.heap.objs.size l 0 → (∀ c o, s.heap.get? c = some o → g.get? c = some o) → Q (.ref (s.heap.objs.size + 1)) { s with heap := g }) :
    wpAny (model prog w) A (call (.type "enumerate") [.ref l]) Q E s := by
  obtain ⟨⟨c0, dc, da, sl⟩, hl, e1, n, e2⟩ := hT
  cases (show c0 = .type "tuple" from e1)
  cases (show da = .seq xs n from e2)
  refine callType_new F.called_enumerate (by decide) (F.typeCall_enumerate_1 _) (F.newCall_enumerate_1 _) (fun x => F.args_object_init_2 x _) F.entry_enumerate_new (meets_enumT l xs n dc sl) ⟨hl, ?_⟩
  have z1 : (s.heap.push (tuiO l)).objs.size = s.heap.objs.size + 1 := Heap.size_push ..
  have g2 : ((s.heap.push (tuiO l)).push (enuO s.heap.objs.size)).get? (s.heap.push (tuiO l)).objs.size = some (enuO s.heap.objs.size) := Heap.get?_push_size _ rfl
  have g1 : ((s.heap.push (tuiO l)).push (enuO s.heap.objs.size)).get? s.heap.objs.size = some (tuiO l) := Heap.get?_push_of_some _ (Heap.get?_push_size _ rfl)
  rw [z1] at g2
  show _ ∧ _
  rw [z1]
  exact ⟨⟨_, g2, rfl⟩, h _ g2 ⟨_, g1, rfl, rfl⟩ fun c o x => Heap.get?_push_of_some _ (Heap.get?_push_of_some _ x)⟩
theorem enumT_end {e it l : Addr} {i : Nat} {xs : Array Value} {old : Value} {Q : Option Value → Shared → Prop} (hh : A.handled = none) (he : IsEnum s.heap e it i old) (hit : s.heap.IsTupleIter it l i) (hT : s.heap.IsTuple l xs) (hx : xs[i]? = none)
    (hQ : ∀ g, Heap.ExtBut it s.heap g → Q none { s with heap := g }) : wpAny (model prog w) A (pyNext (.ref e)) Q E s := by
  have ty : s.TypeIs (.ref e) "enumerate" := ⟨_, he, rfl⟩
  unfold pyNext
  refine wpAny_bind (wpAny_attempt (wpAny_callSpecial?_slot (name := Str.ofString "__next__") ty F.slot_enumerate_next (wpAny_call_entry F.slot_enumerate_next ty F.entry_enumerate_next ?_ (F.args_enumerate_next_1 _))))
  show wpAny _ _ (field (.ref e) 2 >>= fun _ => _) _ _ s
  refine wpAny_bind (wpAny_field he rfl (x := .ref it) rfl (wpAny_bind (wpAny_nextOf_tuple_end (by exact hh) hit hT hx fun g z eb ⟨o, ho, hc⟩ => ?_)))
  exact wpAny_bind (wpAny_isInstance (T := "StopIteration") (b := true) ⟨o, ho, hc⟩ isSubtype_stop (wpAny_pure (hQ _ eb)))
end
/-- the turns of enumerate over the tuple at a -/
def ItE (K : PySem.W.Frag) (a : Addr) : It :=
  ⟨fun i H => ∃ (xs : List V) (x : V), SqT K H a xs ∧ xs[i]? = some x,
    fun i H v H' => ∃ (T : Addr) (x : V), v = .ref T ∧ H T = none ∧ H' = upd H T (.tup [.int (i : Nat), x]) ∧ ∀ xs, SqT K H a xs → xs[i]? = some x,
    fun i H => ∃ xs : List V, SqT K H a xs ∧ xs.length ≤ i⟩
theorem turn_enumT {P : Program} {w : World} {K : PySem.W.Frag} {elts : List Expr} {kk : Nat} {tpos : Pos} (a e it : Addr) (nt : a ≠ it) (ea : e ≠ a) :
    Turn P w K (.Tuple elts kk tpos) (ItE K a) [e, it] e (fun i h => (∃ old, IsEnum h e it ((i : Nat) : Int) old) ∧ h.IsTupleIter it a i ∧ e ≠ it) where
  mem := by simp
  obj := fun i h st b hb => by
    obtain ⟨⟨old, h1⟩, ⟨o, h2, _, h3⟩, _⟩ := st
    rcases (show b = e ∨ b = it by simpa using hb) with rfl | rfl
    · exact ⟨_, h1, fun v q => nomatch q⟩
    · exact ⟨o, h2, fun v q => by rw [h3] at q; cases q⟩
  keep := fun i h h' st k => ⟨st.1.elim fun old z => ⟨old, k e (by simp) _ z⟩, st.2.1.at fun o q => k it (by simp) o q, st.2.2⟩
  item := by
    intro X eP ew eK hc i pins s σ H E I hf st hg
    subst eP ew eK
    obtain ⟨⟨old, he⟩, hit, hne⟩ := st
    obtain ⟨xs, x, hq, hx⟩ := hg
    obtain ⟨its, rv, p, _⟩ := I.tuple hq
    obtain ⟨u, hu, ru⟩ := rv.get hx
    have le := Heap.lt_size he
    have li : it < s.heap.objs.size := hit.elim fun _ q => Heap.lt_size q.1
    have hlt : i < its.toArray.size := by
      rw [List.size_toArray]
      exact (List.getElem?_eq_some_iff.1 hu).1
    refine wpAny_pyNext_enum_itemD (Draws.tuple (A := X.A.in1) (show X.A.in1.handled = none from I.ok.hd hc) it a nt its.toArray) he ⟨hit, p⟩ hlt hne (by simpa using ⟨hne, ea⟩) fun y g tk py ho hst hT hsz hk => ?_
    have ey : y = u := by
      have z : its.toArray[i]? = some u := by simpa using hu
      exact Option.some.inj (py.symm.trans z)
    subst ey
    refine ⟨_, rfl, wpAny_letOwnedTupleGo_enum (s := { s with heap := g, toks := tk + 1 }) ho fun g2 h2 sb => ?_⟩
    have hT2 : g2.get? s.heap.objs.size = some { cls := .type "tuple", data := .seq #[.int i tk, y] } := (sb.2 _ (Nat.ne_of_gt le)).trans hT
    have new : ObjOk X.prog X.w (upd H s.heap.objs.size (.tup [.int (i : Nat), x])) g2 s.heap.objs.size (.tup [.int (i : Nat), x]) := ⟨(show 2 ≤ sizeLine by decide), [.int i tk, y], .cons ⟨_, rfl⟩ (.cons ru .nil), ⟨_, hT2, rfl, _, rfl⟩⟩
    have I1 : Inv X pins σ (upd H s.heap.objs.size (.tup [.int (i : Nat), x])) { s with heap := g2, toks := tk + 1 } := I.turnedNew (ch := [e, it]) (fun b o nb q => (sb.2 b (fun z => nb (by simp [z]))).trans (hk b o (fun z => nb (by simp [z])) (fun z => nb (by simp [z])) q)) hf (Nat.le_refl _) new
    refine ⟨.ref s.heap.objs.size, _, I1, rfl, ⟨_, x, rfl, I.hok.fresh (Nat.le_refl _), rfl, fun ys hy => by rw [I.tuple_inj hy hq]; exact hx⟩, ⟨⟨y, ?_⟩, hst.1.at fun o q => (sb.2 it (Ne.symm hne)).trans q, hne⟩, fun b hb => ?_⟩
    · have z : ((i + 1 : Nat) : Int) = (i : Int) + 1 := Int.natCast_succ i
      rw [z]
      exact h2
    · have lb : b < s.heap.objs.size := by
        rcases (show b = e ∨ b = it by simpa using hb) with rfl | rfl
        · exact le
        · exact li
      rw [upd_ne (Nat.ne_of_lt lb)]
      exact (hf b hb).1
  done := by
    intro X eP ew eK hc i pins s σ H E I hf st hg
    subst eP ew eK
    obtain ⟨⟨old, he⟩, hit, hne⟩ := st
    obtain ⟨xs, hq, hx⟩ := hg
    obtain ⟨its, rv, p, _⟩ := I.tuple hq
    obtain ⟨f0, f1, f2, f3, f4, f5⟩ := hf it (by simp)
    have hl := rv.length
    have i0 : i = its.toArray.size ∨ its.toArray.size < i := by
      rw [List.size_toArray]
      omega
    exact enumT_end (I.ok.hd hc) he hit p (by simp; omega) fun g eb => ⟨rfl, I.turned (t' := s.toks) (fun b o hb q => eb b o hb q) f0 f1 f3 f4 f5⟩
  self := fun A i s Q E st h => let ⟨⟨_, he⟩, _⟩ := st; wpAny_pyIter_enum he h
end Bk
set_option Elab.async false
set_option linter.all false
set_option maxRecDepth 100000
set_option maxHeartbeats 4000000
/-! Bk10: walks over enumerate; in, slices, tuple(..), join, all, dicts by readings that compute. -/
namespace Bk
open PySem PySem.Spec PyProof.Rows L2
def iEnumT (K : PySem.W.Frag) (ta : TA) : TI := fun σ H R => ta σ H fun vs H1 => ∃ a xs, vs = [.ref a] ∧ SqT K H1 a xs ∧ R (ItE K a) H1
section
variable {X : Cx}
theorem pi_enumT {e : Expr} {ta : TA} {p pos tpos : Pos} {elts : List Expr} {kk : Nat} (hg : Gl X "enumerate") (hm : X.mg "enumerate" = none) (ha : PA X [e] ta) (hs : starEach [e] X.env = [(false, eval e X.env)] := by rfl) : PI X (.Tuple elts kk tpos) (.Call (.Name "enumerate" p) [e] [] pos) (iEnumT X.K ta) := by
  refine ⟨fun pins s σ H R I h => ?_⟩
  refine Call_ (ld_blt I hg hm PyProof.Rows.boot_enumerate (PyProof.Rows.callWith_type1 (thn (ha.run pos pins s σ H _ I h) fun us s1 ⟨vs, H1, I1, r1, a, xs, ex, hq, q⟩ => ?_) hs rfl))
  cases ex
  cases r1 with
  | cons r rr =>
    cases rr
    cases r
    obtain ⟨its, rv, p', _⟩ := I1.tuple hq
    obtain ⟨o, ho, _⟩ := id p'
    have la := Heap.lt_size ho
    refine call_enumT (show s1.heap.IsTuple a its.toArray from p') fun g he hit hk => wpAny_pyIter_enum he ?_
    have I2 : Inv X pins σ H1 { s1 with heap := g } := I1.kept (t' := s1.toks) hk
    refine ⟨s1.heap.objs.size + 1, [s1.heap.objs.size + 1, s1.heap.objs.size], _, _, H1, rfl, I2, turn_enumT a (s1.heap.objs.size + 1) s1.heap.objs.size (Nat.ne_of_lt la) (Nat.ne_of_gt (Nat.lt_succ_of_lt la)), ⟨⟨.none, he⟩, hit, Nat.succ_ne_self _⟩, fun b hb => ?_, q⟩
    have lb : s1.heap.objs.size ≤ b := by
      rcases (show b = s1.heap.objs.size + 1 ∨ b = s1.heap.objs.size by simpa using hb) with z | z
      · exact z ▸ Nat.le_succ _
      · exact z ▸ Nat.le_refl _
    exact I1.fpOk lb (I1.hok.fresh lb)
def uEnum (K : PySem.W.Frag) (ta : TA) : TI := fun σ H R => iEnum K ta σ H R ∨ iEnumT K ta σ H R
theorem ui_enum {e : Expr} {ta : TA} {p pos tpos : Pos} {elts : List Expr} {kk : Nat} (hg : Gl X "enumerate") (hm : X.mg "enumerate" = none) (ha : PA X [e] ta) (hs : starEach [e] X.env = [(false, eval e X.env)] := by rfl) : PI X (.Tuple elts kk tpos) (.Call (.Name "enumerate" p) [e] [] pos) (uEnum X.K ta) :=
  pi_or (pi_enum hg hm ha hs) (pi_enumT hg hm ha hs)
/-- in: a sign in a text, a flat thing in a list or a tuple -/
def uIn (K : PySem.W.Frag) (neg : Bool) : R2 := fun x y H Q => match x, y with
  | .str c, .str z => c.cps.size = 1 ∧ Q (.bl (if neg then !decide (c.cps.toList.headD 0 ∈ z.cps.toList) else decide (c.cps.toList.headD 0 ∈ z.cps.toList))) H
  | x, .ref p => ∃ xs, (SqL K H p xs ∨ SqT K H p xs) ∧ flatV x = true ∧ xs.all flatV = true ∧ Q (.bl (if neg then !inV x xs else inV x xs)) H
  | _, _ => False
theorem one_sign {c : Str} (h : c.cps.size = 1) : c = ⟨#[c.cps.toList.headD 0]⟩ := by
  obtain ⟨⟨l⟩⟩ := c
  match l, h with
  | [a], _ => rfl
theorem uo_in : OpR X (compareOp .In) (uIn X.K false) := by
  intro pins s σ H x y v u Q I rx ry h
  unfold uIn at h
  split at h
  · rename_i c z
    exact op_in_sign pins s σ H _ _ v u Q I rx ry ⟨_, z, congrArg V.str (one_sign h.1), rfl, h.2⟩
  · obtain ⟨xs, a, b, c, d⟩ := h
    exact op_in_seq pins s σ H _ _ v u Q I rx ry ⟨_, xs, rfl, a, b, c, d⟩
  · exact h.elim
end
theorem walk_enumT {K : PySem.W.Frag} {a : Addr} {xs : List V} : Walk (ItE K a) xs.length (fun H => SqT K H a xs) (YPair (fun i => some (.int (i : Nat))) (fun i => xs[i]?)) := by
  refine ⟨fun i _ hi q => ⟨xs, xs[i], q, by simp [hi]⟩, fun _ q => ⟨xs, q, Nat.le_refl _⟩, fun i H v H' _ q y => ?_⟩
  obtain ⟨T, x, h1, h2, h3, h4⟩ := y
  exact ⟨T, _, x, h1, h2, h3, rfl, h4 xs q⟩
section
variable {X : Cx}
/-- a slice of a text, a list, a tuple -/
def uSl (K : PySem.W.Frag) : V → Option Int → Option Int → Hp → VK → Prop := fun x lo hi H Q => match x with
  | .str z => z.length ≤ sizeLine ∧ Q (.str (cutS z lo hi)) H
  | .ref a => rSlL K (.ref a) lo hi H Q ∨ rSlA K (.ref a) lo hi H Q
  | _ => False
theorem us_sl : SlR X (uSl X.K) := by
  intro pins s σ H x v vl vu lo hi sl Q I rx hs pl pu h
  unfold uSl at h
  split at h
  · exact sl_str pins s σ H _ v vl vu lo hi sl Q I rx hs pl pu ⟨_, rfl, h⟩
  · exact (sl_list.or sl_tupA) pins s σ H _ v vl vu lo hi sl Q I rx hs pl pu h
  · exact h.elim
/-- tuple(xs), xs a list -/
def uTup (K : PySem.W.Frag) : List V → Hp → VK → Prop := fun xs H Q => match xs with
  | [.ref p] => ∃ ys, (SqL K H p ys ∧ ∀ l, H l = none → Q (.ref l) (upd H l (.tup ys))) ∨ (SqT K H p ys ∧ Q (.ref p) H)
  | _ => False
theorem uk_tup : CallR X (.type "tuple") (uTup X.K) := by
  intro pins s σ H xs us Q I r h
  unfold uTup at h
  split at h
  · obtain ⟨ys, h⟩ := h
    exact call_tuple_of pins s σ H _ us Q I r ⟨_, ys, rfl, h⟩
  · exact h.elim
end
section
variable {K : PySem.W.Frag} {H : Hp} {Q : VK} {σ : L2.St} {neg : Bool}
theorem g_lcU {wi : TI} {g : TG} {tt : TT} {te : TE} {vs : List Nat} (h : wi σ H fun J H1 => ∀ D, H1 D = none → ∃ W : Nat → Nat → Hp → Prop, (∃ m, W 0 m (upd H1 D (.lst []))) ∧ ∀ i m H, W i m H →
    (J.stop i H ∧ Q (.ref D) H) ∨ (J.go i H ∧ ∃ Nx : Hp → Prop, (∀ H', Nx H' → ∃ m', m' < m ∧ W (i + 1) m' H') ∧ ∀ x H', J.yld i H x H' → g x (wipe σ vs) H' fun σ2 H2 => wipe σ2 vs = wipe σ vs ∧ tt σ2 H2 fun b H3 =>
      if b = true then te σ2 H3 fun y H4 => ∃ acc, H4 D = some (.lst acc) ∧ acc.length < sizeLine ∧ Nx (upd H4 D (.lst (acc ++ [y]))) else Nx H3)) : tLc wi g tt te vs σ H Q := h
theorem g_yes {q : Bool → Hp → Prop} (h : q true H) : tYes σ H q := h
theorem g_inS {c z : Str} (e : c.cps.size = 1) (h : Q (.bl (decide (c.cps.toList.headD 0 ∈ z.cps.toList))) H) : uIn K false (.str c) (.str z) H Q := ⟨e, h⟩
theorem g_slS {z : Str} {lo hi : Option Int} (e : z.length ≤ 1000000) (h : Q (.str (cutS z lo hi)) H) : uSl K (.str z) lo hi H Q := ⟨Nat.le_trans e (by decide), h⟩
theorem g_slLU {a : Addr} {xs : List V} {lo hi : Option Int} (ha : H a = some (.lst xs)) (h : ∀ p, H p = none → Q (.ref p) (upd H p (.lst (cutV xs lo hi)))) : uSl K (.ref a) lo hi H Q := .inl ⟨a, xs, rfl, sqL ha, h⟩
theorem g_ixS {z : Str} {i : Int} {c : Nat} (e : atI z.cps.toList i = some c) (hz : z.length ≤ 1000000) (h : Q (.str ⟨#[c]⟩) H) : uIx K (.str z) (.int i) H Q := ⟨Nat.le_trans hz (by decide), c, e, h⟩
theorem g_tupOf {p : Addr} {ys : List V} (hp : H p = some (.lst ys)) (h : ∀ l, H l = none → Q (.ref l) (upd H l (.tup ys))) : uTup K [.ref p] H Q := ⟨ys, .inl ⟨sqL hp, h⟩⟩
theorem g_lenStr {z : Str} (e : z.length ≤ 1000000) (h : Q (.int (z.length : Nat)) H) : uLen K [.str z] H Q := ⟨Nat.le_trans e (by decide), h⟩
theorem g_seqLs {td : TE} {R : It → Hp → Prop} (h : td σ H fun x H1 => ∃ a, x = .ref a ∧ (∃ xs, SqL K H1 a xs) ∧ R (Itl K a) H1) : uSeq K td σ H R := .inl h
theorem g_seqTs {td : TE} {R : It → Hp → Prop} (h : td σ H fun x H1 => ∃ a, x = .ref a ∧ (∃ xs, SqT K H1 a xs) ∧ R (Itt K a) H1) : uSeq K td σ H R := .inr (.inl h)
theorem g_enL {ta : TA} {R : It → Hp → Prop} (h : ta σ H fun vs H1 => ∃ a xs, vs = [.ref a] ∧ SqL K H1 a xs ∧ R (Ite K a) H1) : uEnum K ta σ H R := .inl h
theorem g_enT {ta : TA} {R : It → Hp → Prop} (h : ta σ H fun vs H1 => ∃ a xs, vs = [.ref a] ∧ SqT K H1 a xs ∧ R (ItE K a) H1) : uEnum K ta σ H R := .inr h
theorem g_all {a : Addr} {bs : List Bool} (ha : H a = some (.lst (bs.map V.bl))) (h : Q (.bl (bs.all id)) H) : rAll K [.ref a] H Q := ⟨a, bs, rfl, sqL ha, h⟩
theorem g_seqSs {td : TE} {R : It → Hp → Prop} (h : td σ H fun v H1 => ∃ x, v = .str x ∧ R (Its x) H1) : uSeq K td σ H R := .inr (.inr h)
/-! dicts -/
section
variable {td ty tv tx : TE} {D : Ends} {p : Addr} {kvs : List (L2.Key × V)} {s : Str} {v z : V}
theorem g_dg (h : td σ H fun x H1 => ty σ H1 fun y H2 => ∃ a v, x = .ref a ∧ DGet H2 a y (some v) ∧ Q v H2) : tDGet td ty σ H Q := h
theorem g_dgS {P : V → Prop} (hp : H p = some (.dK kvs)) (e : valV kvs (.inr s) = some v) (h : P v) : ∃ a v, V.ref p = .ref a ∧ DGet H a (.str s) (some v) ∧ P v := ⟨p, v, rfl, by rw [← e]; exact DGet.k (k := .inr s) hp, h⟩
theorem g_di (h : ty σ H fun y H1 => td σ H1 fun x H2 => ∃ a o, x = .ref a ∧ DGet H2 a y o ∧ Q (.bl o.isSome) H2) : tDIn ty td σ H Q := h
theorem g_dni (h : ty σ H fun y H1 => td σ H1 fun x H2 => ∃ a o, x = .ref a ∧ DGet H2 a y o ∧ Q (.bl (!o.isSome)) H2) : tDNotIn ty td σ H Q := h
theorem g_dp (h : tv σ H fun v H1 => td σ H1 fun x H2 => ty σ H2 fun y H3 => ∃ a H4, x = .ref a ∧ DPut H3 a y v H4 ∧ D.nx σ H4) : sDPut td ty tv D σ H := h
theorem g_dpS {P : Hp → Prop} (hp : H p = some (.dK kvs)) (hl : kvs.length ≤ 1000000) (h : P (upd H p (.dK (putK kvs (.inr s) v)))) : ∃ a H4, V.ref p = .ref a ∧ DPut H a (.str s) v H4 ∧ P H4 := ⟨p, _, rfl, DPut.k (k := .inr s) hp (Nat.lt_of_le_of_lt hl (by decide)), h⟩
theorem g_ds (h : td σ H fun x H1 => ∃ a, x = .ref a ∧ IsD H1 a ∧ ty σ H1 fun y H2 => tx σ H2 fun z H3 => ∃ (kvs : List (L2.Key × V)) (k : L2.Key), H3 a = some (.dK kvs) ∧ y = kV k ∧ kvs.length < sizeLine ∧
  (∀ v, valV kvs k = some v → Q v H3) ∧ (valV kvs k = none → Q z (upd H3 a (.dK (putK kvs k z))))) : tDSetd td ty tx σ H Q := h
end
end
/-! ### names and woods -/
def lettersS : Str := "abcdefghijklmnopqrstuvwxyz"
def isName (s : Str) : Bool := !decide (s = "kind") && decide (1 ≤ s.length ∧ s.length ≤ 6) && s.cps.toList.all fun c => decide (c ∈ lettersS.cps.toList)
/-- kind, its makers: name and parts -/
abbrev Mk := Str × List Str
abbrev Wd := List (Str × List Mk)
def partsD (ps : List Str) : D := .tup (ps.map D.str)
def mkD (m : Mk) : D := .tup [.str m.1, partsD m.2]
def kindD (k : Str × List Mk) : D := .tup [.str k.1, .tup (k.2.map mkD)]
def woodD (w : Wd) : D := .tup (w.map kindD)
theorem Rep.strI {H : Hp} {s : Str} {v : V} (h : Rep H (.str s) v) : v = .str s := by simpa only [Rep] using h
theorem Rep.twoI {H : Hp} {d e : D} {v : V} (h : Rep H (.tup [d, e]) v) : ∃ a x y, v = .ref a ∧ H a = some (.tup [x, y]) ∧ Rep H d x ∧ Rep H e y := by
  simp only [Rep, Reps] at h
  obtain ⟨a, _, rfl, ha, x, _, rfl, rx, y, _, rfl, ry, rfl⟩ := h
  exact ⟨a, x, y, rfl, ha, rx, ry⟩
theorem Rep.tupI {H : Hp} {ds : List D} {v : V} (h : Rep H (.tup ds) v) : ∃ a xs, v = .ref a ∧ H a = some (.tup xs) ∧ Reps H ds xs := by simpa only [Rep] using h
theorem Reps.strs {H : Hp} : ∀ {ps : List Str} {vs : List V}, Reps H (ps.map D.str) vs → vs = ps.map V.str
  | [], vs, h => by simpa only [List.map, Reps] using h
  | p :: ps, vs, h => by
    simp only [List.map, Reps, Rep] at h
    obtain ⟨v, r, rfl, rfl, h⟩ := h
    rw [Reps.strs h]
    rfl
theorem strsReps {H : Hp} : ∀ ps : List Str, Reps H (ps.map D.str) (ps.map V.str)
  | [] => by simp only [List.map, Reps]
  | p :: ps => by
    simp only [List.map, Reps]
    exact ⟨_, _, rfl, Rep.s p, strsReps ps⟩
/-- the i-th kind of a wood -/
theorem wood_at {H : Hp} {w : Wd} {xs : List V} {i : Nat} {x : V} (h : Reps H (w.map kindD) xs) (hx : xs[i]? = some x) : ∃ k a c ys, w[i]? = some k ∧ x = .ref a ∧ H a = some (.tup [.str k.1, .ref c]) ∧ H c = some (.tup ys) ∧ Reps H (k.2.map mkD) ys := by
  obtain ⟨d, hd, r⟩ := h.get hx
  rw [List.getElem?_map] at hd
  cases e : w[i]? with
  | none => rw [e] at hd; cases hd
  | some k =>
    rw [e] at hd
    cases hd
    obtain ⟨a, y, z, rfl, ha, ry, rz⟩ := Rep.twoI r
    cases ry.strI
    obtain ⟨c, ys, rfl, hc, rs⟩ := rz.tupI
    exact ⟨k, a, c, ys, rfl, rfl, ha, hc, rs⟩
/-- the i-th maker of a kind -/
theorem mk_at {H : Hp} {ms : List Mk} {xs : List V} {i : Nat} {x : V} (h : Reps H (ms.map mkD) xs) (hx : xs[i]? = some x) : ∃ m a c, ms[i]? = some m ∧ x = .ref a ∧ H a = some (.tup [.str m.1, .ref c]) ∧ H c = some (.tup (m.2.map V.str)) := by
  obtain ⟨d, hd, r⟩ := h.get hx
  rw [List.getElem?_map] at hd
  cases e : ms[i]? with
  | none => rw [e] at hd; cases hd
  | some m =>
    rw [e] at hd
    cases hd
    obtain ⟨a, y, z, rfl, ha, ry, rz⟩ := Rep.twoI r
    cases ry.strI
    obtain ⟨c, ys, rfl, hc, rs⟩ := rz.tupI
    cases rs.strs
    exact ⟨m, a, c, rfl, rfl, ha, hc⟩
/-! ### comprehensions that map -/
section
variable {J : It} {n : Nat} {G : Hp → Prop} {Y : Nat → Hp → V → Hp → Prop} {g : TG} {te : TE} {vs : List Nat} {σ : L2.St} {H1 : Hp} {D : Addr} {Qd : Hp → Prop}
/-- nothing but new objects; R of each item -/
theorem lc_mapE (w : Walk J n G Y) (R : Nat → Hp → V → Prop) (hn : n ≤ 16000000) (hD : H1 D = none) (hR : ∀ j H H' v, Tk H H' → R j H v → R j H' v) (hG : ∀ H, Ex H1 H → G H)
    (hs : ∀ i x H H' (P : VK) (N : Hp → Prop), i < n → Ex H1 H → Y i H x H' → (∀ y H4, Ex H H4 → R i H4 y → P y H4) → g x (wipe σ vs) H' fun σ2 H2 => wipe σ2 vs = wipe σ vs ∧ tYes σ2 H2 fun b H3 => if b = true then te σ2 H3 P else N H3)
    (hd : ∀ H' acc, Ex H1 H' → H' D = some (.lst acc) → acc.length = n → (∀ j v, acc[j]? = some v → R j H' v) → Qd H') :
    ∃ W : Nat → Nat → Hp → Prop, (∃ m, W 0 m (upd H1 D (.lst []))) ∧ ∀ i m H, W i m H →
      (J.stop i H ∧ Qd H) ∨ (J.go i H ∧ ∃ Nx : Hp → Prop, (∀ H', Nx H' → ∃ m', m' < m ∧ W (i + 1) m' H') ∧ ∀ x H', J.yld i H x H' → g x (wipe σ vs) H' fun σ2 H2 => wipe σ2 vs = wipe σ vs ∧ tYes σ2 H2 fun b H3 =>
        if b = true then te σ2 H3 fun y H4 => ∃ acc, H4 D = some (.lst acc) ∧ acc.length < sizeLine ∧ Nx (upd H4 D (.lst (acc ++ [y]))) else Nx H3) := by
  refine lc_it w (fun i H => Ex H1 H ∧ ∃ acc, H D = some (.lst acc) ∧ acc.length = i ∧ ∀ j v, acc[j]? = some v → R j H v) ⟨Ex.new hD, [], upd_same, rfl, fun j v z => by simp at z⟩ (fun i H _ p => hG H p.1) ?_ fun H p => ?_
  · rintro i x H H' hi ⟨e, acc, ha, hl, hr⟩ y
    refine hs i x H H' _ _ hi e y fun u H4 e4 r4 => ?_
    have a4 := e4 _ _ ha
    refine ⟨acc, a4, Nat.lt_of_le_of_lt (by omega : acc.length ≤ 16000000) (by decide), (e.trans e4).at_new hD, _, upd_same, by rw [List.length_append, hl]; rfl, fun j v hj => ?_⟩
    have b5 : Tk H4 (upd H4 D (.lst (acc ++ [u]))) := ((But.refl D H4).upd).tkl a4
    by_cases c : j < acc.length
    · rw [List.getElem?_append_left c] at hj
      exact hR _ _ _ _ b5 (hR _ _ _ _ e4.tk (hr j v hj))
    · rw [List.getElem?_append_right (by omega)] at hj
      have ej : j = i := by
        have := (List.getElem?_eq_some_iff.1 hj).1
        simp at this
        omega
      subst ej
      rw [hl, Nat.sub_self] at hj
      cases hj
      exact hR _ _ _ _ b5 r4
  · obtain ⟨e, acc, ha, hl, hr⟩ := p
    exact hd H acc e ha hl hr
end
end Bk
set_option Elab.async false
set_option linter.all false
set_option maxRecDepth 100000
set_option maxHeartbeats 4000000
/-! Bk11: a list's +=; equality by data; dicts of pairs; maps with draws. -/
namespace Bk
open PySem PySem.Spec PyProof.Rows L2
section
variable {M : Model} {A : Around} {E : Value → Shared → Prop} {s : Shared}
theorem iaddL {a b : Value} {Q : Value → Shared → Prop} (ha : s.TypeIs a "list") (hb : s.TypeIs b "list") (hc : wpAny M A (call (.builtin "list.__iadd__") [a, b]) Q E s) : wpAny M A (inplaceOp .Add a b) Q E s := by
  have z1 : seqSlot? (.type "list") (dunderI "add") = pure (some (.builtin "list.__iadd__")) := PySem.seqSlot_of F.slot_list_iadd.lookup (by decide +kernel)
  have z2 : isSeqSlot (some (.builtin "list.__iadd__")) = true := by decide +kernel
  have z0 : fillsInplaceSlot (.type "list") "add" (Operator.Add == .Add) = pure false := by
    unfold fillsInplaceSlot
    show (typeLookup (.type "list") (dunderI "add") >>= fun x => pure (x.isSome && !isSeqSlot x)) = pure false
    rw [F.slot_list_iadd.lookup, pure_bind, z2] <;> rfl
  unfold inplaceOp
  refine wpAny_holding (wpAny_bind (wpAny_typeOf ha (wpAny_bind (wpAny_of_eq z0 ?_))))
  refine (show wpAny M A (if false = true then _ else _) Q E s from ?_); rw [if_neg Bool.false_ne_true]
  refine wpAny_bind (wpAny_binaryOp1_none (nm := "add") ha hb noFill_list_add (wpAny_bind (wpAny_of_eq z1 ?_)))
  exact wpAny_bind (wpAny_rule hc)
end
section
variable {X : Cx}
/-- xs += ys, both lists: the left one grows -/
def uIadd : V → V → Hp → VK → Prop := fun x y H Q => match x, y with
  | .int i, .int j => Q (.int (i + j)) H
  | .ref l, .ref b => ∃ xs zs, H l = some (.lst xs) ∧ H b = some (.lst zs) ∧ xs.length + zs.length ≤ sizeLine ∧ Q (.ref l) (upd H l (.lst (xs ++ zs)))
  | _, _ => False
theorem ip_catL : PIp X .Add uIadd := by
  intro pins s σ H x y v u Q I rx ry h
  unfold uIadd at h
  split at h
  · exact ip_add pins s σ H _ _ v u Q I rx ry ⟨_, _, rfl, rfl, h⟩
  · obtain ⟨xs, zs, hH, hB, hz, q⟩ := h
    cases rx
    cases ry
    obtain ⟨z, its, n, r, hl, e⟩ := I.lstM hH
    obtain ⟨z2, its2, n2, r2, hl2, e2⟩ := I.lstM hB
    have s1 : its.toArray.size + its2.toArray.size ≤ sizeLine := by simp only [List.size_toArray]; omega
    have s2 : ¬ (!its.toArray.isEmpty && Builtin.List.listTooLong (its.toArray.size + its2.toArray.size)) = true := by simp only [notLongL s1, Bool.and_false]; decide
    refine iaddL ⟨_, e, rfl⟩ ⟨_, e2, rfl⟩ (call_meets F.slot_list_iadd ⟨_, e, rfl⟩ F.entry_list_iadd (F.args_list_iadd_2 _ _) (AutoSeq1.list___iadd___list_list_0 _ its.toArray n _ its2.toArray n2 s2 (by simp only [List.size_toArray]; omega) (by omega)) ⟨e, e2, ?_⟩)
    exact ⟨.ref _, _, I.lset (its' := its ++ its2) hH e (by simp) (r.append r2) (by simp only [List.length_append]; omega), rfl, q⟩
  · exact h.elim
end
/-! ### kinds and makers by name -/
/-- (name, number) -/
def kvsFrom : Nat → Wd → List (L2.Key × V)
  | _, [] => []
  | n, k :: r => (.inr k.1, .int (n : Nat)) :: kvsFrom (n + 1) r
theorem paired_of {H : Hp} : ∀ (w : Wd) (n : Nat) (acc : List V), acc.length = w.length → (∀ j v, acc[j]? = some v → ∃ p k, v = .ref p ∧ w[j]? = some k ∧ H p = some (.tup [.str k.1, .int ((n + j : Nat) : Int)])) →
    ∃ ps : List Addr, acc = ps.map V.ref ∧ ∀ K : PySem.W.Frag, Paired (fun p (kv : L2.Key × V) => SqT K H p [kV kv.1, kv.2]) ps (kvsFrom n w)
  | [], n, acc, hl, _ => ⟨[], List.eq_nil_of_length_eq_zero hl, fun _ => .nil⟩
  | k :: w, n, [], hl, _ => by cases hl
  | k :: w, n, v :: acc, hl, h => by
    obtain ⟨p, k', rfl, ek, hp⟩ := h 0 v rfl
    cases ek
    obtain ⟨ps, rfl, hps⟩ := paired_of (H := H) w (n + 1) acc (Nat.succ.inj hl) fun j u hu => by
      obtain ⟨q, k2, a1, a2, a3⟩ := h (j + 1) u hu
      refine ⟨q, k2, a1, a2, ?_⟩
      rw [a3, Nat.add_right_comm n 1 j, Nat.add_assoc n j 1]
    exact ⟨p :: ps, rfl, fun K => .cons (sqT hp) (hps K)⟩
def spKinds : Sp := fun vs H Q _ => ∃ (w : Wd) (v : V), vs = [v] ∧ Rep H (woodD w) v ∧ w.length ≤ 1000 ∧ ∀ d H', H d = none → Ex H H' → H' d = some (.dK (mergeK [] (kvsFrom 0 w))) → Q (.ref d) H'
/-- makers' names, in order -/
def mkNames (w : Wd) : List Str := (w.map fun k => k.2.map Prod.fst).flatten
def spMakersOf : Sp := fun vs H Q _ => ∃ (w : Wd) (v : V), vs = [v] ∧ Rep H (woodD w) v ∧ (mkNames w).length ≤ 1000 ∧ (∀ k ∈ w, k.2.length ≤ 1000) ∧ ∀ l H', H l = none → Ex H H' → H' l = some (.lst ((mkNames w).map V.str)) → Q (.ref l) H'
section
variable {K : PySem.W.Frag} {H : Hp} {Q : VK}
theorem g_augL {σ : L2.St} {i : Nat} {te : TE} {ti : V → V → Hp → VK → Prop} {D : Ends} {x : V} (hx : σ[i]? = some (some x)) (h : te σ H fun y H1 => ti x y H1 fun z H2 => D.nx (σ.set i (some z)) H2) : tAug i te ti D σ H := ⟨x, hx, h⟩
theorem g_iadd {l b : Addr} {xs zs : List V} (hl : H l = some (.lst xs)) (hb : H b = some (.lst zs)) (hz : xs.length + zs.length ≤ 1000000) (h : Q (.ref l) (upd H l (.lst (xs ++ zs)))) : uIadd (.ref l) (.ref b) H Q := ⟨xs, zs, hl, hb, Nat.le_trans hz (by decide), h⟩
end
/-! ### the makers' table -/
/-- the number of a kind by its name -/
def kno (w : Wd) (s : Str) : Int := match valV (mergeK [] (kvsFrom 0 w)) (.inr s) with
  | some (.int i) => i
  | _ => 0
theorem kvsFrom_int : ∀ (n : Nat) (w : Wd), ∀ p ∈ kvsFrom n w, ∃ i : Int, p.2 = .int i
  | _, [], p, h => by cases h
  | n, k :: w, p, h => by
    rcases List.mem_cons.1 h with rfl | h
    · exact ⟨_, rfl⟩
    · exact kvsFrom_int (n + 1) w p h
theorem merge_mem : ∀ (more kvs : List (L2.Key × V)) (k : L2.Key), (∀ p ∈ more, ∃ i : Int, p.2 = .int i) → (∀ v, valV kvs k = some v → ∃ i : Int, v = .int i) → ((∃ v, valV kvs k = some v) ∨ k ∈ more.map Prod.fst) → ∃ i : Int, valV (mergeK kvs more) k = some (.int i)
  | [], kvs, k, _, h2, h3 => by
    rcases h3 with ⟨v, hv⟩ | h3
    · obtain ⟨i, rfl⟩ := h2 v hv
      exact ⟨i, hv⟩
    · cases h3
  | p :: more, kvs, k, h1, h2, h3 => by
    show ∃ i : Int, valV (mergeK (putK kvs p.1 p.2) more) k = some (.int i)
    refine merge_mem more _ k (fun q hq => h1 q (List.mem_cons_of_mem _ hq)) (fun v hv => ?_) ?_
    · rw [valV_put] at hv
      split at hv
      · cases hv
        exact h1 p List.mem_cons_self
      · exact h2 v hv
    · by_cases c : k = p.1
      · exact .inl ⟨p.2, by rw [valV_put, if_pos c]⟩
      · rcases h3 with ⟨v, hv⟩ | h3
        · exact .inl ⟨v, by rw [valV_put, if_neg c]; exact hv⟩
        · rcases List.mem_cons.1 h3 with h3 | h3
          · exact absurd h3 c
          · exact .inr h3
theorem kvsFrom_keys : ∀ (n : Nat) (w : Wd), (kvsFrom n w).map Prod.fst = w.map fun k => Sum.inr k.1
  | _, [] => rfl
  | n, k :: w => by
    show _ :: _ = _ :: _
    rw [kvsFrom_keys (n + 1) w]
theorem kno_get {w : Wd} {s : Str} (h : s ∈ w.map Prod.fst) : valV (mergeK [] (kvsFrom 0 w)) (.inr s) = some (.int (kno w s)) := by
  obtain ⟨i, e⟩ := merge_mem (kvsFrom 0 w) [] (.inr s) (kvsFrom_int 0 w) (fun v z => by cases z) (.inr (by
    rw [kvsFrom_keys]
    obtain ⟨k, hk, rfl⟩ := List.mem_map.1 h
    exact List.mem_map.2 ⟨k, hk, rfl⟩))
  unfold kno
  rw [e]
def tabFrom : Nat → Wd → List (Nat × Mk)
  | _, [] => []
  | n, k :: r => k.2.map (fun m => (n, m)) ++ tabFrom (n + 1) r
theorem tab_split : ∀ (w : Wd) (n i : Nat) (k : Str × List Mk), w[i]? = some k → tabFrom n w = tabFrom n (w.take i) ++ k.2.map (fun m => (n + i, m)) ++ tabFrom (n + i + 1) (w.drop (i + 1))
  | [], n, i, k, h => by simp at h
  | a :: w, n, 0, k, h => by
    cases h
    simp [tabFrom]
  | a :: w, n, i + 1, k, h => by
    have z := tab_split w (n + 1) i k h
    have e : n + 1 + i = n + (i + 1) := by omega
    simp only [tabFrom, List.take_succ_cons, List.drop_succ_cons, z, e, List.append_assoc]
theorem tab_take : ∀ (w : Wd) (n i : Nat) (k : Str × List Mk), w[i]? = some k → tabFrom n (w.take (i + 1)) = tabFrom n (w.take i) ++ k.2.map (fun m => (n + i, m))
  | [], n, i, k, h => by simp at h
  | a :: w, n, 0, k, h => by
    cases h
    simp [tabFrom]
  | a :: w, n, i + 1, k, h => by
    have z := tab_take w (n + 1) i k h
    have e : n + 1 + i = n + (i + 1) := by omega
    simp only [tabFrom, List.take_succ_cons, z, e, List.append_assoc]
theorem tab_mem : ∀ (w : Wd) (n i : Nat) (k : Str × List Mk) (m : Mk), w[i]? = some k → m ∈ k.2 → (n + i, m) ∈ tabFrom n w := fun w n i k m h hm => by
  rw [tab_split w n i k h]
  exact List.mem_append_left _ (List.mem_append_right _ (List.mem_map.2 ⟨m, hm, rfl⟩))
structure TabPre (w : Wd) : Prop where
  nd : ((tabFrom 0 w).map fun e => e.2.1).Nodup
  parts : ∀ k ∈ w, ∀ m ∈ k.2, (∀ s ∈ m.2, s ∈ w.map Prod.fst) ∧ m.2.length ≤ 1000
  wide : w.length ≤ 1000
  many : (tabFrom 0 w).length ≤ 1000
def EntryAt (w : Wd) (H : Hp) (kvs : List (L2.Key × V)) (e : Nat × Mk) : Prop := ∃ p t, valV kvs (.inr e.2.1) = some (.ref p) ∧ H p = some (.tup [.int (e.1 : Nat), .ref t]) ∧ H t = some (.tup (e.2.2.map fun s => .int (kno w s)))
def TabOk (w : Wd) (H : Hp) (kvs : List (L2.Key × V)) (L : List (Nat × Mk)) : Prop := kvs.length ≤ L.length ∧ ∀ e ∈ L, EntryAt w H kvs e
theorem TabOk.tk {w : Wd} {H H' : Hp} {kvs : List (L2.Key × V)} {L : List (Nat × Mk)} (t : Tk H H') (h : TabOk w H kvs L) : TabOk w H' kvs L := ⟨h.1, fun e he => by
  obtain ⟨p, q, a, b, c⟩ := h.2 e he
  exact ⟨p, q, a, t _ _ b, t _ _ c⟩⟩
theorem putK_len (kvs : List (L2.Key × V)) (k : L2.Key) (v : V) : (putK kvs k v).length ≤ kvs.length + 1 := by
  unfold putK
  split
  · rw [List.length_map]; omega
  · rw [List.length_append, List.length_singleton]; omega
theorem TabOk.put {w : Wd} {H : Hp} {kvs : List (L2.Key × V)} {L : List (Nat × Mk)} {e : Nat × Mk} {p t : Addr} (h : TabOk w H kvs L) (hn : e.2.1 ∉ L.map fun e => e.2.1) (hp : H p = some (.tup [.int (e.1 : Nat), .ref t])) (ht : H t = some (.tup (e.2.2.map fun s => .int (kno w s)))) : TabOk w H (putK kvs (.inr e.2.1) (.ref p)) (L ++ [e]) := by
  refine ⟨?_, fun f hf => ?_⟩
  · rw [List.length_append, List.length_singleton]
    have := putK_len kvs (.inr e.2.1) (.ref p)
    have := h.1
    omega
  · rcases List.mem_append.1 hf with hf | hf
    · obtain ⟨p', t', a, b, c⟩ := h.2 f hf
      refine ⟨p', t', ?_, b, c⟩
      rw [valV_put, if_neg (fun z => hn ?_)]
      · exact a
      · exact List.mem_map.2 ⟨f, hf, Sum.inr.inj z⟩
    · rw [List.mem_singleton.1 hf]
      exact ⟨p, t, by rw [valV_put, if_pos rfl], hp, ht⟩
def spTable : Sp := fun vs H Q _ => ∃ (w : Wd) (v : V), vs = [v] ∧ Rep H (woodD w) v ∧ TabPre w ∧ ∀ d kvs H', Ex H H' → H' d = some (.dK kvs) → TabOk w H' kvs (tabFrom 0 w) → Q (.ref d) H'
theorem g_dnew {σ : L2.St} {H : Hp} {Q : VK} (h : ∀ p, H p = none → Q (.ref p) (upd H p (.dK []))) : tDNewK σ H Q := h
/-! ### a wood that is let by -/
structure WoodOk (w : Wd) : Prop where
  kinds : 1 ≤ w.length ∧ w.length ≤ 4
  name : ∀ k ∈ w, isName k.1 = true
  knd : (w.map Prod.fst).Nodup
  mkr : ∀ k ∈ w, ∀ m ∈ k.2, isName m.1 = true ∧ m.2.length ≤ 2 ∧ ∀ s ∈ m.2, s ∈ w.map Prod.fst
  nd : ((tabFrom 0 w).map fun e => e.2.1).Nodup
  many : (tabFrom 0 w).length ≤ 12
theorem WoodOk.pre {w : Wd} (h : WoodOk w) : TabPre w := ⟨h.nd, fun k hk m hm => ⟨(h.mkr k hk m hm).2.2, Nat.le_trans (h.mkr k hk m hm).2.1 (by decide)⟩, Nat.le_trans h.kinds.2 (by decide), Nat.le_trans h.many (by decide)⟩
def KeysIn (kvs : List (L2.Key × V)) (L : List Str) : Prop := kvs.length ≤ L.length ∧ (∀ s, (valV kvs (.inr s)).isSome = true ↔ s ∈ L)
theorem KeysIn.put {kvs : List (L2.Key × V)} {L : List Str} {s : Str} {v : V} (h : KeysIn kvs L) : KeysIn (putK kvs (.inr s) v) (L ++ [s]) := by
  refine ⟨?_, fun t => ?_⟩
  · have := putK_len kvs (.inr s) v
    have := h.1
    rw [List.length_append, List.length_singleton]
    omega
  · rw [valV_put, List.mem_append, List.mem_singleton]
    by_cases c : t = s
    · subst c
      rw [if_pos rfl]
      exact ⟨fun _ => .inr rfl, fun _ => rfl⟩
    · rw [if_neg (fun z => c (Sum.inr.inj z)), h.2 t]
      exact ⟨fun z => .inl z, fun z => z.resolve_right c⟩
theorem KeysIn.none {kvs : List (L2.Key × V)} {L : List Str} {s : Str} (h : KeysIn kvs L) (hn : s ∉ L) : valV kvs (.inr s) = none := by
  cases e : valV kvs (.inr s) with
  | none => rfl
  | some v => exact absurd ((h.2 s).1 (by rw [e]; rfl)) hn
theorem nodup_at {α : Type} {l : List α} {i : Nat} {x : α} (h : l.Nodup) (hx : l[i]? = some x) : x ∉ l.take i := by
  intro z
  obtain ⟨h1, h2⟩ := List.getElem?_eq_some_iff.1 hx
  have e : l = l.take i ++ x :: l.drop (i + 1) := by rw [← h2, List.getElem_cons_drop, List.take_append_drop]
  rw [e] at h
  exact (List.nodup_append.1 h).2.2 _ z _ List.mem_cons_self rfl
/-! ### maps with draws -/
theorem Box.tk {H H' : Hp} {p : Addr} (b : Box H p) (e : But p H H') : Tk H H' := by
  obtain ⟨_, _, _, h⟩ := b
  exact e.tkl h
theorem Box.ne {H : Hp} {p q : Addr} (b : Box H p) (h : H q = none) : q ≠ p := fun z => by
  obtain ⟨_, _, _, hp⟩ := b
  rw [← z, h] at hp
  cases hp
theorem Box.at_upd {H : Hp} {p q : Addr} {o : HO} (b : Box H p) (h : q ≠ p) : Box (upd H q o) p := by
  obtain ⟨x, y, z, hp⟩ := b
  exact ⟨x, y, z, by rw [upd_ne (Ne.symm h)]; exact hp⟩
theorem But.at_new {p q : Addr} {H H' : Hp} {o : HO} (e : But p H H') (h : H q = none) : But p H (L2.upd H' q o) := fun a u na hu => by
  rw [upd_ne (ne_of_none hu h)]
  exact e a u na hu
section
variable {J : It} {n : Nat} {G : Hp → Prop} {Y : Nat → Hp → V → Hp → Prop} {g : TG} {te : TE} {vs : List Nat} {σ : L2.St} {H1 : Hp} {D : Addr} {Qd : Hp → Prop}
theorem lc_mapB (w : Walk J n G Y) (p : Addr) (R : Nat → Hp → V → Prop) (hn : n ≤ 1000000) (hD : H1 D = none) (hB : Box H1 p) (hR : ∀ j H H' v, Tk H H' → R j H v → R j H' v) (hG : ∀ H, But p H1 H → G H)
    (hs : ∀ i x H H' (P : VK) (N : Hp → Prop), i < n → But p H1 H → Box H p → Y i H x H' → (∀ y H4, But p H H4 → Box H4 p → R i H4 y → P y H4) → g x (wipe σ vs) H' fun σ2 H2 => wipe σ2 vs = wipe σ vs ∧ tYes σ2 H2 fun b H3 => if b = true then te σ2 H3 P else N H3)
    (hd : ∀ H' acc, But p H1 H' → Box H' p → H' D = some (.lst acc) → acc.length = n → (∀ j v, acc[j]? = some v → R j H' v) → Qd H') :
    ∃ W : Nat → Nat → Hp → Prop, (∃ m, W 0 m (upd H1 D (.lst []))) ∧ ∀ i m H, W i m H →
      (J.stop i H ∧ Qd H) ∨ (J.go i H ∧ ∃ Nx : Hp → Prop, (∀ H', Nx H' → ∃ m', m' < m ∧ W (i + 1) m' H') ∧ ∀ x H', J.yld i H x H' → g x (wipe σ vs) H' fun σ2 H2 => wipe σ2 vs = wipe σ vs ∧ tYes σ2 H2 fun b H3 =>
        if b = true then te σ2 H3 fun y H4 => ∃ acc, H4 D = some (.lst acc) ∧ acc.length < sizeLine ∧ Nx (upd H4 D (.lst (acc ++ [y]))) else Nx H3) := by
  have nD := hB.ne hD
  refine lc_it w (fun i H => But p H1 H ∧ Box H p ∧ ∃ acc, H D = some (.lst acc) ∧ acc.length = i ∧ ∀ j v, acc[j]? = some v → R j H v) ⟨(Ex.new hD).but p, hB.at_upd nD, [], upd_same, rfl, fun j v z => by simp at z⟩ (fun i H _ h => hG H h.1) ?_ fun H h => ?_
  · rintro i x H H' hi ⟨e, b, acc, ha, hl, hr⟩ y
    refine hs i x H H' _ _ hi e b y fun u H4 e4 b4 r4 => ?_
    have a4 := e4 _ _ nD ha
    have t4 := b.tk e4
    refine ⟨acc, a4, Nat.lt_of_le_of_lt (by omega : acc.length ≤ 1000000) (by decide), (e.trans e4).at_new hD, b4.at_upd nD, _, upd_same, by rw [List.length_append, hl]; rfl, fun j v hj => ?_⟩
    have b5 : Tk H4 (upd H4 D (.lst (acc ++ [u]))) := ((But.refl D H4).upd).tkl a4
    by_cases c : j < acc.length
    · rw [List.getElem?_append_left c] at hj
      exact hR _ _ _ _ b5 (hR _ _ _ _ t4 (hr j v hj))
    · rw [List.getElem?_append_right (by omega)] at hj
      have ej : j = i := by
        have := (List.getElem?_eq_some_iff.1 hj).1
        simp at this
        omega
      subst ej
      rw [hl, Nat.sub_self] at hj
      cases hj
      exact hR _ _ _ _ b5 r4
  · obtain ⟨e, b, acc, ha, hl, hr⟩ := h
    exact hd H acc e b ha hl hr
end
/-- a list of values told one by one -/
theorem acc_strs {n : Nat} {acc : List V} {P : Nat → Str → Prop} (hl : acc.length = n) (h : ∀ j v, acc[j]? = some v → ∃ s, v = .str s ∧ P j s) : ∃ ss : List Str, acc = ss.map V.str ∧ ss.length = n ∧ ∀ j s, ss[j]? = some s → P j s := by
  refine ⟨acc.map fun v => match v with | .str s => s | _ => ⟨#[]⟩, ?_, by rw [List.length_map, hl], fun j s hs => ?_⟩
  · refine List.ext_getElem? fun j => ?_
    rw [List.map_map, List.getElem?_map]
    cases e : acc[j]? with
    | none => rfl
    | some v =>
      obtain ⟨s, rfl, _⟩ := h j v e
      rfl
  · rw [List.getElem?_map] at hs
    cases e : acc[j]? with
    | none => rw [e] at hs; cases hs
    | some v =>
      obtain ⟨s', rfl, hp⟩ := h j v e
      rw [e] at hs
      cases hs
      exact hp
/-! ### the comparison where no list stands -/
inductive PrH (H0 H1 : Hp) : Nat → List V → Prop where
  | nil : PrH H0 H1 0 []
  | snoc {n : Nat} {ts : List V} {d : D} {t : V} (h : PrH H0 H1 n ts) (r : Pr H0 H1 d t) (k : d.hard = true) : PrH H0 H1 (n + d.size) (ts ++ [t])
theorem PrH.len {H0 H1 : Hp} {n : Nat} {ts : List V} (h : PrH H0 H1 n ts) : ts.length ≤ n := by
  induction h with
  | nil => exact Nat.le_refl _
  | @snoc n ts d t h r k ih =>
    have := d.size_pos
    rw [List.length_append, List.length_singleton]
    omega
theorem PrH.tk {H0 H1 H2 : Hp} {n : Nat} {ts : List V} (e : Tk H1 H2) (h : PrH H0 H1 n ts) : PrH H0 H2 n ts := by
  induction h with
  | nil => exact .nil
  | snoc h r k ih =>
    obtain ⟨a, v, w, rfl, ha, rv, rw'⟩ := r
    exact .snoc ih ⟨a, v, w, rfl, e _ _ ha, rv, rw'⟩ k
theorem PrH.ext {H0 H1 : Hp} : ∀ {ds : List D} {xs ys : List V} {tl : List Addr} {n : Nat} {ts : List V}, Reps H0 ds xs → Reps H0 ds ys → D.hards ds = true → Prz H1 tl xs ys → PrH H0 H1 n ts → PrH H0 H1 (n + D.sizes ds) (ts ++ tl.map V.ref)
  | [], xs, ys, tl, n, ts, hx, hy, _, hp, h => by
    simp only [Reps] at hx hy
    subst hx
    have e : tl = [] := List.eq_nil_of_length_eq_zero hp.1
    subst e
    simpa [D.sizes] using h
  | d :: ds, xs, ys, tl, n, ts, hx, hy, hh, hp, h => by
    simp only [Reps] at hx hy
    simp only [D.hards, Bool.and_eq_true] at hh
    obtain ⟨x, xr, rfl, rx, hx⟩ := hx
    obtain ⟨y, yr, rfl, ry, hy⟩ := hy
    cases tl with
    | nil => cases hp.1
    | cons t tl =>
      obtain ⟨x', y', ex, ey, ht⟩ := hp.2 0 t rfl
      cases ex
      cases ey
      have hp' : Prz H1 tl xr yr := ⟨Nat.succ.inj hp.1, fun j u hu => by
        obtain ⟨a, b, q⟩ := hp.2 (j + 1) u hu
        exact ⟨a, b, q⟩⟩
      have z := PrH.ext hx hy hh.2 hp' (h.snoc ⟨t, x, y, rfl, ht, rx, ry⟩ hh.1)
      have e1 : n + D.sizes (d :: ds) = n + d.size + D.sizes ds := by simp only [D.sizes]; omega
      have e2 : ts ++ (t :: tl).map V.ref = ts ++ [V.ref t] ++ tl.map V.ref := by simp
      rw [e1, e2]
      exact z
theorem D.openT {H0 : Hp} {d : D} {v w : V} (k : d.isT = true) (kh : d.hard = true) (r : Rep H0 d v) (r' : Rep H0 d w) : ∃ (a b : Addr) (ds : List D) (xs ys : List V), v = .ref a ∧ w = .ref b ∧ Reps H0 ds xs ∧ Reps H0 ds ys ∧ d.size = 1 + D.sizes ds ∧ D.hards ds = true ∧ H0 a = some (.tup xs) ∧ H0 b = some (.tup ys) := by
  cases d with
  | tup ds =>
    simp only [Rep] at r r'
    obtain ⟨a, xs, rfl, ha, ra⟩ := r
    obtain ⟨b, ys, rfl, hb, rb⟩ := r'
    exact ⟨a, b, ds, xs, ys, rfl, rfl, ra, rb, by simp only [D.size], by simpa only [D.hard] using kh, ha, hb⟩
  | _ => cases k
theorem hard_flat {d : D} (kh : d.hard = true) (k : d.isT = false) : (d.isT || d.isL) = false := by
  cases d with
  | tup ds => cases k
  | lst ds => simp only [D.hard] at kh; cases kh
  | _ => rfl
def spAlikeT : Sp := fun vs H Q _ => ∃ (d : D) (v w : V), vs = [v, w] ∧ Rep H d v ∧ Rep H d w ∧ d.hard = true ∧ d.size ≤ 400000 ∧ ∀ H', Ex H H' → Q (.bl true) H'
end Bk
set_option Elab.async false
set_option linter.all false
set_option maxRecDepth 100000
set_option maxHeartbeats 4000000
/-! Bk12: texts joined, cut; lists of texts compared. -/
namespace Bk
open PySem PySem.Spec PyProof.Rows L2
theorem fold_join : ∀ (rest : List Str) (acc : Array Nat), (rest.foldl (fun acc p => acc ++ (Str.ofString "").cps ++ p.cps) acc).toList = acc.toList ++ (rest.map fun s => s.cps.toList).flatten
  | [], acc => by simp
  | r :: rest, acc => by
    rw [List.foldl_cons, fold_join rest, List.map_cons, List.flatten_cons]
    have e : (Str.ofString "").cps.toList = [] := by decide
    rw [Array.toList_append, Array.toList_append, e, List.append_nil, List.append_assoc]
theorem joinE (ys : List Str) : (Txt.join "" ys).cps.toList = (ys.map fun s => s.cps.toList).flatten := by
  cases ys with
  | nil => rfl
  | cons y ys =>
    show ((ys.foldl (fun acc p => acc ++ (Str.ofString "").cps ++ p.cps) y.cps).toList) = _
    rw [fold_join, List.map_cons, List.flatten_cons]
def one (c : Nat) : Str := ⟨#[c]⟩
theorem joinOnes (cs : List Nat) : (Txt.join "" (cs.map one)).cps.toList = cs := by
  rw [joinE, List.map_map]
  induction cs with
  | nil => rfl
  | cons c cs ih =>
    rw [List.map_cons, List.flatten_cons, ih]
    rfl
theorem onesLen (cs : List Nat) : ((cs.map one).map (·.length)).sum = cs.length := by
  induction cs with
  | nil => rfl
  | cons c cs ih =>
    rw [List.map_cons, List.map_cons, List.sum_cons, ih]
    show 1 + cs.length = cs.length + 1
    omega
theorem str_len (s : Str) : s.length = s.cps.toList.length := by
  show s.cps.size = _
  simp
/-- a list of single signs -/
theorem acc_ones {n : Nat} {acc : List V} {P : Nat → Prop} (hl : acc.length = n) (h : ∀ (j : Nat) (v : V), acc[j]? = some v → ∃ c, v = V.str ⟨#[c]⟩ ∧ P c) : ∃ cs : List Nat, acc = (cs.map one).map V.str ∧ cs.length = n ∧ ∀ c ∈ cs, P c := by
  induction acc generalizing n with
  | nil => exact ⟨[], rfl, hl, fun c z => nomatch z⟩
  | cons v acc ih =>
    obtain ⟨c, ev, hc⟩ := h 0 v rfl
    subst ev
    obtain ⟨cs, rfl, h2, h3⟩ := ih (n := acc.length) rfl fun j v hj => h (j + 1) v hj
    refine ⟨c :: cs, rfl, ?_, fun x hx => ?_⟩
    · rw [List.length_cons] at hl ⊢
      omega
    · rcases List.mem_cons.1 hx with rfl | hx
      · exact hc
      · exact h3 x hx
section
variable {K : PySem.W.Frag} {H : Hp} {Q : VK} {σ : L2.St}
theorem g_m1 {r : V → List V → Hp → VK → Prop} {to te : TE} (h : to σ H fun x H1 => (∃ a, x = .str a) ∧ te σ H1 fun y H2 => r x [y] H2 Q) : tM1 r to te σ H Q := h
theorem g_tyS {P : Prop} {a : Str} (h : P) : (∃ b, V.str a = .str b) ∧ P := ⟨⟨a, rfl⟩, h⟩
theorem joinB {cs : List Nat} (hl : cs.length ≤ 1000000) : ((cs.map one).map (·.length)).sum + (cs.map one).length * (Str.ofString "").length ≤ 16777216 := by
  rw [onesLen, show (Str.ofString "").length = 0 from rfl, Nat.mul_zero]
  omega
/-! lists of texts compared -/
end
/-- any text of the laws -/
def TextOk (s : Str) : Prop := s.length ≤ 1000 ∧ ∀ c ∈ s.cps.toList, c < 0x110000
instance instTextOk (s : Str) : Decidable (TextOk s) := inferInstanceAs (Decidable (s.length ≤ 1000 ∧ ∀ c ∈ s.cps.toList, c < 0x110000))
theorem atI_ex {α : Type} {l : List α} {j : Int} (h0 : 0 ≤ j) (h1 : j < l.length) : ∃ x, atI l j = some x ∧ l[j.toNat]? = some x := by
  have hj : j.toNat < l.length := by omega
  refine ⟨l[j.toNat], ?_, List.getElem?_eq_getElem hj⟩
  have z := atI_nat (List.getElem?_eq_getElem hj)
  rwa [Int.toNat_of_nonneg h0] at z
theorem atI_strs {ss : List Str} {j : Int} (h0 : 0 ≤ j) (h1 : j < ss.length) : ∃ s, atI (ss.map V.str) j = some (.str s) ∧ s ∈ ss := by
  obtain ⟨v, e, h⟩ := atI_ex (l := ss.map V.str) h0 (by rw [List.length_map]; exact h1)
  rw [List.getElem?_map] at h
  cases q : ss[j.toNat]? with
  | none => rw [q] at h; cases h
  | some s =>
    rw [q] at h
    cases h
    exact ⟨s, e, List.mem_of_getElem? q⟩
end Bk
set_option Elab.async false
set_option linter.all false
set_option maxRecDepth 100000
set_option maxHeartbeats 4000000
/-! Bk13: names drawn. -/
namespace Bk
open PySem PySem.Spec PyProof.Rows L2
section
variable {X : Cx}
def uIdx : V → List V → Hp → VK → Prop := fun x xs H Q => match x, xs with
  | .str z, [.str c] => ∃ k, Txt.index0 z c = some k ∧ Q (.int (k : Nat)) H
  | _, _ => False
theorem mt_idx (hc : X.calm = true) : MtS X "str.index" (fun _ x xs H Q => uIdx x xs H Q) := by
  intro pins s σ H x xs v us Q I rx rv h
  unfold uIdx at h
  split at h
  · rename_i z c
    obtain ⟨k, e, q⟩ := h
    exact mt_indexX hc (takes0 (X := X)) pins s σ H _ _ v us Q I rx rv ⟨z, c, rfl, rfl, fun k' e' => by rw [e] at e'; cases e'; exact q, fun e' => by rw [e] at e'; cases e'⟩
  · exact h.elim
end
theorem letters_list : lettersS.cps.toList = (List.range 26).map (97 + ·) := by decide +kernel
theorem letters_len : lettersS.length = 26 := by decide +kernel
theorem letters_index : ∀ i : Fin 26, Txt.index0 lettersS ⟨#[97 + i.val]⟩ = some i.val := by decide +kernel
theorem letters_at {i : Nat} (h : i < 26) : lettersS.cps.toList[i]? = some (97 + i) := by
  rw [letters_list, List.getElem?_map, List.getElem?_range h]
  rfl
theorem letters_mem {c : Nat} : c ∈ lettersS.cps.toList ↔ ∃ i, i < 26 ∧ c = 97 + i := by
  rw [letters_list, List.mem_map]
  constructor
  · rintro ⟨i, hi, rfl⟩
    exact ⟨i, List.mem_range.1 hi, rfl⟩
  · rintro ⟨i, hi, rfl⟩
    exact ⟨i, List.mem_range.2 hi, rfl⟩
/-- small letters alone -/
def Low (s : Str) : Prop := ∀ c ∈ s.cps.toList, c ∈ lettersS.cps.toList
theorem isName_of {s : Str} (hl : Low s) (h1 : 1 ≤ s.length) (h6 : s.length ≤ 6) (hk : s ≠ "kind") : isName s = true := by
  unfold isName
  rw [decide_eq_false hk, decide_eq_true ⟨h1, h6⟩]
  simp only [Bool.not_false, Bool.true_and, List.all_eq_true, decide_eq_true_eq]
  exact hl
theorem isName_low {s : Str} (h : isName s = true) : Low s := by
  unfold isName at h
  simp only [Bool.and_eq_true, List.all_eq_true, decide_eq_true_eq] at h
  exact h.2
theorem low_ok {s : Str} (h : Low s) : ∀ c ∈ s.cps.toList, c < 0x110000 := fun c hc => by
  obtain ⟨i, hi, rfl⟩ := letters_mem.1 (h c hc)
  omega
theorem app_list (s t : Str) : (s ++ t).cps.toList = s.cps.toList ++ t.cps.toList := by
  show (s.cps ++ t.cps).toList = _
  simp
theorem app_len (s t : Str) : (s ++ t).length = s.length + t.length := by
  rw [str_len, str_len, str_len, app_list, List.length_append]
theorem Low.app {s t : Str} (h : Low s) (g : Low t) : Low (s ++ t) := fun c hc => by
  rw [app_list] at hc
  rcases List.mem_append.1 hc with hc | hc
  · exact h c hc
  · exact g c hc
theorem cut_list (z : Str) (lo hi : Option Int) : (cutS z lo hi).cps.toList = (z.cps.toList.drop (HT.sIx z.length 0 lo)).take (HT.sIx z.length z.length hi - HT.sIx z.length 0 lo) := by
  unfold cutS
  rfl
theorem Low.cut {z : Str} {lo hi : Option Int} (h : Low z) : Low (cutS z lo hi) := fun c hc => by
  rw [cut_list] at hc
  exact h c (List.mem_of_mem_drop (List.mem_of_mem_take hc))
theorem cut_from {z : Str} {a : Nat} (h : a ≤ z.length) : (cutS z (some (a : Int)) none).cps.toList = z.cps.toList.drop a := by
  rw [cut_list, HT.sIx_none, HT.sIx_nat, Nat.min_eq_left h, str_len, ← List.length_drop, List.take_length]
theorem cut_to_len (z : Str) (a : Nat) : (cutS z none (some (a : Int))).length = min a z.length := by
  rw [str_len, cut_list, HT.sIx_none, HT.sIx_nat, List.drop_zero, Nat.sub_zero, List.length_take, ← str_len]
  omega
theorem str_ext {s t : Str} (h : s.cps.toList = t.cps.toList) : s = t := by
  obtain ⟨a⟩ := s
  obtain ⟨b⟩ := t
  congr 1
  exact Array.toList_inj.1 h
/-- the same behind another first letter -/
def rot (r : List Nat) (k : Nat) : Str := ⟨((97 + k % 26) :: r).toArray⟩
theorem rot_list (r : List Nat) (k : Nat) : (rot r k).cps.toList = (97 + k % 26) :: r := rfl
theorem rot_of {s : Str} (hl : Low s) (h1 : 1 ≤ s.length) : ∃ a r, s = rot r a := by
  cases e : s.cps.toList with
  | nil => rw [str_len, e] at h1; cases h1
  | cons c r =>
    obtain ⟨i, hi, rfl⟩ := letters_mem.1 (hl c (by rw [e]; exact List.mem_cons_self))
    exact ⟨i, r, str_ext (by rw [e, rot_list, Nat.mod_eq_of_lt hi])⟩
theorem nodup_sub : ∀ {l m : List Str}, l.Nodup → (∀ x ∈ l, x ∈ m) → l.length ≤ m.length
  | [], m, _, _ => Nat.zero_le _
  | x :: l, m, h, s => by
    have hx := s x List.mem_cons_self
    obtain ⟨h1, h2⟩ := List.nodup_cons.1 h
    have ih := nodup_sub (l := l) (m := m.erase x) h2 fun y hy => (List.mem_erase_of_ne fun (z : y = x) => h1 (z ▸ hy)).2 (s y (List.mem_cons_of_mem _ hy))
    rw [List.length_erase_of_mem hx] at ih
    have := List.length_pos_of_mem hx
    rw [List.length_cons]
    omega
theorem rot_bound {r : List Nat} {a t : Nat} {F : List Str} (ht : t ≤ 25) (h : ∀ u, u ≤ t → rot r (a + u) ∈ F) : t + 1 ≤ F.length := by
  have z := nodup_sub (l := (List.range (t + 1)).map fun u => rot r (a + u)) (m := F) ?_ fun x hx => ?_
  · rwa [List.length_map, List.length_range] at z
  · refine List.Pairwise.map _ (R := fun u v => u < v ∧ v ≤ t) (fun u v huv e => ?_) ?_
    · have := congrArg (fun s : Str => s.cps.toList) e
      simp only [rot_list, List.cons.injEq, and_true] at this
      omega
    · refine List.Pairwise.imp_of_mem (R := (· < ·)) (fun hu hv q => ⟨q, ?_⟩) List.pairwise_lt_range
      have := List.mem_range.1 hv
      omega
  · obtain ⟨u, hu, rfl⟩ := List.mem_map.1 hx
    exact h u (by have := List.mem_range.1 hu; omega)
section
variable {K : PySem.W.Frag} {H : Hp} {Q : VK} {σ : L2.St}
theorem inV_strs (n : Str) : ∀ ss : List Str, inV (.str n) (ss.map V.str) = decide (n ∈ ss)
  | [] => rfl
  | s :: ss => by
    show (eqV (.str s) (.str n) || inV (.str n) (ss.map V.str)) = _
    rw [inV_strs n ss]
    show ((s == n) || decide (n ∈ ss)) = decide (n ∈ s :: ss)
    by_cases c : s = n
    · subst c
      simp
    · have e : (s == n) = false := by simpa using c
      rw [e, Bool.false_or]
      congr 1
      rw [List.mem_cons]
      exact propext ⟨fun z => .inr z, fun z => z.resolve_left fun q => c q.symm⟩
theorem flat_strs : ∀ ss : List Str, (ss.map V.str).all flatV = true
  | [] => rfl
  | s :: ss => by
    rw [List.map_cons, List.all_cons, flat_strs ss]
    rfl
theorem g_inL {l : Addr} {n : Str} {ss : List Str} (hl : H l = some (.lst (ss.map V.str))) (h : Q (.bl (decide (n ∈ ss))) H) : uIn K false (.str n) (.ref l) H Q := ⟨_, .inl (sqL hl), rfl, flat_strs ss, by rw [inV_strs]; exact h⟩
theorem g_addS {a b : Str} (hl : a.length + b.length ≤ 1000000) (h : Q (.str (a ++ b)) H) : uAdd K (.str a) (.str b) H Q := ⟨Nat.le_trans hl (by decide), h⟩
theorem g_bmS {T : String} {r : L2.St → V → List V → Hp → VK → Prop} {to : TE} {t : TA} (h : to σ H fun x H1 => tyV K T x H1 ∧ t σ H1 fun xs H2 => r σ x xs H2 Q) : tBMS K T r to t σ H Q := h
theorem g_tyStr {z : Str} {P : Prop} (h : P) : tyV K "str" (.str z) H ∧ P := ⟨rfl, h⟩
theorem g_idx {z c : Str} {k : Nat} (e : Txt.index0 z c = some k) (h : Q (.int (k : Nat)) H) : uIdx (.str z) [.str c] H Q := ⟨k, e, h⟩
end
def spNames : Sp := fun vs H Q _ => ∃ (p : Addr) (many : Nat), vs = [.ref p, .int (many : Nat)] ∧ Box H p ∧ many ≤ 12 ∧ ∀ (l : Addr) (ss : List Str) (H' : Hp), ss.length = many → (∀ s ∈ ss, isName s = true) → ss.Nodup → H l = none → But p H H' → Box H' p → H' l = some (.lst (ss.map V.str)) → Q (.ref l) H'
end Bk
set_option Elab.async false
set_option linter.all false
set_option maxRecDepth 100000
set_option maxHeartbeats 4000000
/-! Bk14: the laws' makers. -/
namespace Bk
open PySem PySem.Spec PyProof.Rows L2
def DueAt (w : Wd) (H : Hp) (e : Nat × Mk) (v : V) : Prop := ∃ p t, v = .ref p ∧ H p = some (.tup [.str e.2.1, .int (e.1 : Nat), .ref t]) ∧ H t = some (.tup (e.2.2.map fun s => .int (kno w s)))
theorem DueAt.tk {w : Wd} {H H' : Hp} {e : Nat × Mk} {v : V} (t : Tk H H') (h : DueAt w H e v) : DueAt w H' e v := by
  obtain ⟨p, q, a, b, c⟩ := h
  exact ⟨p, q, a, t _ _ b, t _ _ c⟩
/-- a list of such -/
def Dues (w : Wd) (H : Hp) (L : List (Nat × Mk)) (vs : List V) : Prop := vs.length = L.length ∧ ∀ (j : Nat) (v : V), vs[j]? = some v → ∃ e, L[j]? = some e ∧ DueAt w H e v
theorem Dues.tk {w : Wd} {H H' : Hp} {L : List (Nat × Mk)} {vs : List V} (t : Tk H H') (h : Dues w H L vs) : Dues w H' L vs := ⟨h.1, fun j v hj => by
  obtain ⟨e, a, b⟩ := h.2 j v hj
  exact ⟨e, a, b.tk t⟩⟩
theorem Dues.app {w : Wd} {H : Hp} {L M : List (Nat × Mk)} {vs us : List V} (h : Dues w H L vs) (g : Dues w H M us) : Dues w H (L ++ M) (vs ++ us) := by
  refine ⟨by rw [List.length_append, List.length_append, h.1, g.1], fun j v hj => ?_⟩
  by_cases c : j < vs.length
  · rw [List.getElem?_append_left c] at hj
    obtain ⟨e, a, b⟩ := h.2 j v hj
    exact ⟨e, by rw [List.getElem?_append_left (by rw [← h.1]; exact c)]; exact a, b⟩
  · rw [List.getElem?_append_right (by omega)] at hj
    obtain ⟨e, a, b⟩ := g.2 _ v hj
    exact ⟨e, by rw [List.getElem?_append_right (by rw [← h.1]; omega), ← h.1]; exact a, b⟩
def spMakers : Sp := fun vs H Q _ => ∃ (w : Wd) (v : V), vs = [v] ∧ Rep H (woodD w) v ∧ WoodOk w ∧ ∀ l H' us, Ex H H' → H' l = some (.lst us) → Dues w H' (tabFrom 0 w) us → Q (.ref l) H'
/-- the first place of a kind's name -/
theorem kno_at : ∀ (w : Wd) (n i : Nat) (k : Str × List Mk) (kvs : List (L2.Key × V)), (w.map Prod.fst).Nodup → w[i]? = some k → valV (mergeK kvs (kvsFrom n w)) (.inr k.1) = some (.int ((n + i : Nat) : Int))
  | [], n, i, k, kvs, _, h => by simp at h
  | a :: w, n, 0, k, kvs, hn, h => by
    cases h
    show valV (mergeK (putK kvs (.inr a.1) (.int (n : Nat))) (kvsFrom (n + 1) w)) (.inr a.1) = _
    have h1 := (List.nodup_cons.1 hn).1
    have z : ∀ (w : Wd) (n : Nat) (kvs : List (L2.Key × V)) (s : Str), s ∉ w.map Prod.fst → valV (mergeK kvs (kvsFrom n w)) (.inr s) = valV kvs (.inr s) := by
      intro w
      induction w with
      | nil => intro n kvs s _; rfl
      | cons b w ih =>
        intro n kvs s hs
        show valV (mergeK (putK kvs (.inr b.1) (.int (n : Nat))) (kvsFrom (n + 1) w)) (.inr s) = _
        rw [List.map_cons, List.mem_cons, not_or] at hs
        rw [ih (n + 1) _ s hs.2, valV_put, if_neg fun e => hs.1 (Sum.inr.inj e)]
    rw [z w (n + 1) _ a.1 h1, valV_put, if_pos rfl]
    rfl
  | a :: w, n, i + 1, k, kvs, hn, h => by
    show valV (mergeK (putK kvs (.inr a.1) (.int (n : Nat))) (kvsFrom (n + 1) w)) (.inr k.1) = _
    rw [kno_at w (n + 1) i k _ (List.nodup_cons.1 hn).2 h]
    congr 2
    omega
theorem kno_idx {w : Wd} {i : Nat} {k : Str × List Mk} (hn : (w.map Prod.fst).Nodup) (h : w[i]? = some k) : kno w k.1 = (i : Nat) := by
  unfold kno
  rw [kno_at w 0 i k [] hn h]
  simp
/-- list.index of a kind's name -/
theorem g_lidx {K : PySem.W.Frag} {H : Hp} {Q : VK} {w : Wd} {l : Addr} {s : Str} (hn : (w.map Prod.fst).Nodup) (hl : H l = some (.lst ((w.map Prod.fst).map V.str))) (hs : s ∈ w.map Prod.fst) (h : Q (.int (kno w s)) H) : rIndex K (.ref l) [.str s] H Q := by
  obtain ⟨i, hi⟩ := List.mem_iff_getElem?.1 hs
  rw [List.getElem?_map] at hi
  cases ek : w[i]? with
  | none => rw [ek] at hi; cases hi
  | some k =>
    rw [ek] at hi
    cases hi
    rw [kno_idx hn ek] at h
    have ei : (w.map Prod.fst)[i]? = some k.1 := by rw [List.getElem?_map, ek]; rfl
    refine ⟨l, _, _, i, .str k.1, rfl, rfl, sqL hl, rfl, flat_strs _, by rw [List.getElem?_map, ei]; rfl, by show (k.1 == k.1) = true; simp, fun m z hm hz => ?_, h⟩
    rw [List.getElem?_map] at hz
    cases em : (w.map Prod.fst)[m]? with
    | none => rw [em] at hz; cases hz
    | some t =>
      rw [em] at hz
      cases hz
      show (t == k.1) = false
      have ne : t ≠ k.1 := by
        intro e
        subst e
        have := nodup_at hn ei
        exact this (List.mem_iff_getElem?.2 ⟨m, by rw [List.getElem?_take, if_pos hm, em]⟩)
      simpa using ne
theorem tab_names : ∀ (w : Wd) (n : Nat), (tabFrom n w).map (fun e => e.2.1) = mkNames w
  | [], n => rfl
  | k :: w, n => by
    show List.map _ (k.2.map (fun m => (n, m)) ++ tabFrom (n + 1) w) = (List.map _ (k :: w)).flatten
    rw [List.map_append, tab_names w (n + 1), List.map_map, List.map_cons, List.flatten_cons]
    rfl
theorem intsReps {H : Hp} : ∀ is : List Int, Reps H (is.map D.int) (is.map V.int)
  | [] => by simp only [List.map, Reps]
  | i :: is => by
    simp only [List.map, Reps]
    exact ⟨_, _, rfl, Rep.i i, intsReps is⟩
theorem ints_hard : ∀ is : List Int, D.hards (is.map D.int) = true
  | [] => rfl
  | i :: is => by
    show (D.hard (.int i) && D.hards (is.map D.int)) = true
    rw [ints_hard is]
    rfl
theorem ints_size : ∀ is : List Int, D.sizes (is.map D.int) = is.length
  | [] => rfl
  | i :: is => by
    show D.size (.int i) + D.sizes (is.map D.int) = _
    rw [ints_size is, List.length_cons]
    simp only [D.size]
    omega
theorem Rep.ints {H : Hp} {t : Addr} {is : List Int} (h : H t = some (.tup (is.map V.int))) : Rep H (.tup (is.map D.int)) (.ref t) := by
  simp only [Rep]
  exact ⟨t, _, rfl, h, intsReps is⟩
theorem map_kno (w : Wd) (l : List Str) : (l.map fun s => V.int (kno w s)) = (l.map fun s => kno w s).map V.int := by rw [List.map_map]; rfl
section
variable {K : PySem.W.Frag} {H : Hp} {Q : VK} {σ : L2.St}
theorem g_tup3 {p : Addr} {x y z : V} {i j k : Nat} {P : L2.St → Hp → Prop} (hp : H p = some (.tup [x, y, z])) (h : P (((σ.set i (some x)).set j (some y)).set k (some z)) H) : gTup K 3 (gCons (gName i) (gCons (gName j) (gCons (gName k) gNil))) (.ref p) σ H P :=
  ⟨p, _, rfl, sqT hp, rfl, x, _, rfl, y, _, rfl, z, _, rfl, rfl, h⟩
end
theorem WoodOk.low {w : Wd} (h : WoodOk w) : ∀ s ∈ mkNames w, isName s = true := fun s hs => by
  unfold mkNames at hs
  obtain ⟨l, hl, hs⟩ := List.mem_flatten.1 hs
  obtain ⟨k, hk, rfl⟩ := List.mem_map.1 hl
  obtain ⟨m, hm, rfl⟩ := List.mem_map.1 hs
  exact (h.mkr k hk m hm).1
theorem WoodOk.names {w : Wd} (h : WoodOk w) : (mkNames w).length ≤ 12 := by rw [← tab_names w 0, List.length_map]; exact h.many
theorem WoodOk.row {w : Wd} (h : WoodOk w) : ∀ k ∈ w, k.2.length ≤ 1000 := fun k hk => by
  obtain ⟨i, hi⟩ := List.mem_iff_getElem?.1 hk
  have := h.many
  rw [tab_split w 0 i k hi, List.length_append, List.length_append, List.length_map] at this
  omega
def spWood : Sp := fun vs H Q _ => ∃ p : Addr, vs = [.ref p, .int 12] ∧ Box H p ∧ ∀ (w : Wd) (v : V) (H' : Hp), WoodOk w → Rep H' (woodD w) v → But p H H' → Box H' p → Q v H'
theorem strs_hard : ∀ ss : List Str, D.hards (ss.map D.str) = true
  | [] => rfl
  | s :: ss => by
    show (D.hard (.str s) && D.hards (ss.map D.str)) = true
    rw [strs_hard ss]
    rfl
theorem mks_hard : ∀ ms : List Mk, D.hards (ms.map mkD) = true
  | [] => rfl
  | m :: ms => by
    show (D.hard (mkD m) && D.hards (ms.map mkD)) = true
    rw [mks_hard ms, Bool.and_true]
    show (D.hard (.str m.1) && (D.hards (m.2.map D.str) && true)) = true
    rw [strs_hard]
    rfl
theorem kinds_hard : ∀ w : Wd, D.hards (w.map kindD) = true
  | [] => rfl
  | k :: w => by
    show (D.hard (kindD k) && D.hards (w.map kindD)) = true
    rw [kinds_hard w, Bool.and_true]
    show (D.hard (.str k.1) && (D.hards (k.2.map mkD) && true)) = true
    rw [mks_hard]
    rfl
theorem wood_hard (w : Wd) : (woodD w).hard = true := by
  show D.hards (w.map kindD) = true
  exact kinds_hard w
/-! ### the rows of a wood that is drawn -/
structure Rows (H : Hp) (ras : List Addr) (R : List (List Mk)) : Prop where
  len : ras.length = R.length
  nd : ras.Nodup
  at_ : ∀ (q : Nat) (a : Addr) (r : List Mk), ras[q]? = some a → R[q]? = some r → ∃ us, H a = some (.lst us) ∧ Reps H (r.map mkD) us
theorem Rows.get {H : Hp} {ras : List Addr} {R : List (List Mk)} (h : Rows H ras R) {q : Nat} (hq : q < R.length) : ∃ a r us, ras[q]? = some a ∧ R[q]? = some r ∧ H a = some (.lst us) ∧ Reps H (r.map mkD) us := by
  have hq2 : q < ras.length := by rw [h.len]; exact hq
  obtain ⟨us, a, b⟩ := h.at_ q _ _ (List.getElem?_eq_getElem hq2) (List.getElem?_eq_getElem hq)
  exact ⟨_, _, us, List.getElem?_eq_getElem hq2, List.getElem?_eq_getElem hq, a, b⟩
/-- what keeps the lists at ras and all tuples -/
theorem Rows.keep {H H' : Hp} {ras : List Addr} {R : List (List Mk)} (h : Rows H ras R) (t : Tk H H') (k : ∀ a ∈ ras, ∀ us, H a = some (.lst us) → H' a = some (.lst us)) : Rows H' ras R := ⟨h.len, h.nd, fun q a r ha hr => by
  obtain ⟨us, hu, rs⟩ := h.at_ q a r ha hr
  exact ⟨us, k a (List.mem_of_getElem? ha) us hu, rs.tk t (mks_hard r)⟩⟩
theorem Rows.put {H : Hp} {ras : List Addr} {R : List (List Mk)} {q : Nat} {a : Addr} {r : List Mk} {us : List V} {m : Mk} {v : V} (h : Rows H ras R) (ha : ras[q]? = some a) (hr : R[q]? = some r) (hu : H a = some (.lst us)) (rs : Reps H (r.map mkD) us) (rv : Rep H (mkD m) v) : Rows (upd H a (.lst (us ++ [v]))) ras (R.set q (r ++ [m])) := by
  have tk : Tk H (upd H a (.lst (us ++ [v]))) := ((But.refl a H).upd).tkl hu
  have hm : (mkD m).hard = true := by
    have := mks_hard [m]
    simpa only [List.map, D.hards, Bool.and_true] using this
  refine ⟨by rw [List.length_set]; exact h.len, h.nd, fun j b s hb hs => ?_⟩
  by_cases c : q = j
  · subst c
    have hl : q < R.length := (List.getElem?_eq_some_iff.1 hr).1
    rw [List.getElem?_set_self hl] at hs
    cases hs
    rw [ha] at hb
    cases hb
    refine ⟨us ++ [v], upd_same, ?_⟩
    rw [List.map_append]
    exact (rs.tk tk (mks_hard r)).append (by simp only [List.map, Reps]; exact ⟨v, [], rfl, rv.tk tk hm, rfl⟩)
  · rw [List.getElem?_set_ne c] at hs
    obtain ⟨ws, hw, rw'⟩ := h.at_ j b s hb hs
    have ne : b ≠ a := fun e => False.elim (by
      rw [e] at hb
      have h1 := (List.getElem?_eq_some_iff.1 ha)
      have h2 := (List.getElem?_eq_some_iff.1 hb)
      have z := List.pairwise_iff_getElem.1 h.nd
      rcases Nat.lt_or_gt_of_ne c with l | l
      · exact absurd (h1.2.trans h2.2.symm) (z q j h1.1 h2.1 l)
      · exact absurd (h2.2.trans h1.2.symm) (z j q h2.1 h1.1 l))
    exact ⟨ws, by rw [upd_ne ne]; exact hw, rw'.tk tk (mks_hard s)⟩
def rowNames (R : List (List Mk)) : List Str := (R.map fun r => r.map Prod.fst).flatten
theorem rowNames_put : ∀ (R : List (List Mk)) (q : Nat) (r : List Mk) (m : Mk), R[q]? = some r → (rowNames (R.set q (r ++ [m]))).Perm (rowNames R ++ [m.1])
  | [], q, r, m, h => by simp at h
  | s :: R, 0, r, m, h => by
    cases h
    show ((s ++ [m]).map Prod.fst ++ rowNames R).Perm (s.map Prod.fst ++ rowNames R ++ [m.1])
    rw [List.map_append, List.append_assoc, List.append_assoc]
    exact List.Perm.append_left _ List.perm_append_comm
  | s :: R, q + 1, r, m, h => by
    show (s.map Prod.fst ++ rowNames (R.set q (r ++ [m]))).Perm (s.map Prod.fst ++ rowNames R ++ [m.1])
    rw [List.append_assoc]
    exact List.Perm.append_left _ (rowNames_put R q r m h)
def MkOk (ks : List Str) (m : Mk) : Prop := isName m.1 = true ∧ m.2.length ≤ 2 ∧ ∀ s ∈ m.2, s ∈ ks
theorem zip_names : ∀ (ks : List Str) (R : List (List Mk)), ks.length = R.length → mkNames (ks.zip R) = rowNames R
  | [], [], _ => rfl
  | [], _ :: _, h => by cases h
  | _ :: _, [], h => by cases h
  | k :: ks, r :: R, h => by
    show r.map Prod.fst ++ mkNames (ks.zip R) = r.map Prod.fst ++ rowNames R
    rw [zip_names ks R (Nat.succ.inj h)]
theorem wood_of {ks ns : List Str} {R : List (List Mk)} (hk : 1 ≤ ks.length ∧ ks.length ≤ 4) (hkn : ∀ k ∈ ks, isName k = true) (hkd : ks.Nodup) (hl : ks.length = R.length) (hR : ∀ r ∈ R, ∀ m ∈ r, MkOk ks m) (hp : (rowNames R).Perm ns) (hnd : ns.Nodup) (hn : ns.length ≤ 12) : WoodOk (ks.zip R) := by
  have e1 : (ks.zip R).map Prod.fst = ks := List.map_fst_zip (by omega)
  have e2 : (tabFrom 0 (ks.zip R)).map (fun e => e.2.1) = rowNames R := (tab_names _ _).trans (zip_names ks R hl)
  refine ⟨by rw [List.length_zip]; omega, fun k hk' => hkn k.1 (e1 ▸ List.mem_map.2 ⟨k, hk', rfl⟩), by rw [e1]; exact hkd, fun k hk' m hm => ?_, by rw [e2]; exact hp.nodup_iff.2 hnd, ?_⟩
  · have := hR k.2 (List.of_mem_zip hk').2 m hm
    rw [e1]
    exact this
  · have := congrArg List.length e2
    rw [List.length_map, hp.length_eq] at this
    omega
theorem zip_reps {H : Hp} : ∀ (ks : List Str) (R : List (List Mk)) (acc : List V), ks.length = R.length → acc.length = ks.length → (∀ (j : Nat) (v : V), acc[j]? = some v → ∃ k r, ks[j]? = some k ∧ R[j]? = some r ∧ Rep H (kindD (k, r)) v) → Reps H ((ks.zip R).map kindD) acc
  | [], [], acc, _, h, _ => by
    have : acc = [] := List.eq_nil_of_length_eq_zero h
    subst this
    simp only [List.zip_nil_left, List.map, Reps]
  | [], _ :: _, _, h, _, _ => by cases h
  | _ :: _, [], _, h, _, _ => by cases h
  | k :: ks, r :: R, [], _, h, _ => by cases h
  | k :: ks, r :: R, v :: acc, h, h2, h3 => by
    obtain ⟨k', r', e1, e2, rv⟩ := h3 0 v rfl
    cases e1
    cases e2
    have z := zip_reps ks R acc (Nat.succ.inj h) (Nat.succ.inj h2) fun j u hj => h3 (j + 1) u hj
    simp only [List.zip_cons_cons, List.map, Reps]
    exact ⟨v, acc, rfl, rv, z⟩
theorem kind_hard (k : Str × List Mk) : (kindD k).hard = true := by
  have := kinds_hard [k]
  simpa only [List.map, D.hards, Bool.and_true] using this
end Bk
set_option Elab.async false
set_option linter.all false
set_option maxRecDepth 100000
set_option maxHeartbeats 4000000
/-! Bk15: own errors with fields over ValueError. -/
namespace Bk
open PySem PySem.Spec PyProof.Rows L2
def spExc1 (K : PySem.W.Frag) (bm : List Value) (f : Str) : Sp := fun vs H Q _ => ∃ (a C : Addr) (y : V), vs = [.ref a, y] ∧ OexB K C "ValueError.__new__" bm ∧ OexC K C ∧ PySem.W.findIn K (.ref C) f = some none ∧ H a = some (exo a C none) ∧
  ∀ dx, H dx = none → dx ≠ a → Q .non (upd (upd H dx (exd dx [(f, y)])) a (exo a C (some dx)))
def spExc2 (K : PySem.W.Frag) (bm : List Value) (f g : Str) : Sp := fun vs H Q _ => ∃ (a C : Addr) (y z : V), vs = [.ref a, y, z] ∧ OexB K C "ValueError.__new__" bm ∧ OexC K C ∧ PySem.W.findIn K (.ref C) f = some none ∧ PySem.W.findIn K (.ref C) g = some none ∧ H a = some (exo a C none) ∧
  ∀ dx, H dx = none → dx ≠ a → Q .non (upd (upd (upd H dx (exd dx [(f, y)])) a (exo a C (some dx))) dx (exd dx [(g, z), (f, y)]))
section
variable {K : PySem.W.Frag} {bm : List Value} {C : Addr} {H1 : Hp} {Q : XK} {f g : Str} {y z : V}
theorem end_exc1 (x : OexB K C "ValueError.__new__" bm) (o : OexC K C) (n : PySem.W.findIn K (.ref C) f = some none) (h : ∀ d H', Ex H1 H' → H' d = some (.xd [(f, y)]) → Q (.ref C) (some d) H') :
    [y].length ≤ 1000 ∧ ∀ a, H1 a = none → spExc1 K bm f (.ref a :: ([y] ++ [])) (upd H1 a (exo a C none)) (fun v H2 => v = .non ∧ ∃ (d : Addr) (fs : List (Str × V)), H2 a = some (exo a C (some d)) ∧ H2 d = some (exd d fs) ∧ H1 d = none ∧ Q (.ref C) (some d) (upd (del H2 a) d (.xd fs))) (fun _ _ _ => False) := by
  refine ⟨(show 1 ≤ 1000 by decide), fun a ha => ⟨a, C, y, rfl, x, o, n, upd_same, fun dx hdx ne => ⟨rfl, dx, [(f, y)], upd_same, ?_, ?_, h dx _ (fun b u hu => ?_) upd_same⟩⟩⟩
  · rw [upd_ne ne, upd_same]
  · rwa [upd_ne ne] at hdx
  · have nb : b ≠ a := ne_of_none hu ha
    have nd : b ≠ dx := fun e => by rw [e] at hu; rw [upd_ne ne, hu] at hdx; cases hdx
    rw [upd_ne nd, del_ne nb, upd_ne nb, upd_ne nd, upd_ne nb]
    exact hu
theorem end_exc2 (x : OexB K C "ValueError.__new__" bm) (o : OexC K C) (n : PySem.W.findIn K (.ref C) f = some none) (n2 : PySem.W.findIn K (.ref C) g = some none) (h : ∀ d H', Ex H1 H' → H' d = some (.xd [(g, z), (f, y)]) → Q (.ref C) (some d) H') :
    [y, z].length ≤ 1000 ∧ ∀ a, H1 a = none → spExc2 K bm f g (.ref a :: ([y, z] ++ [])) (upd H1 a (exo a C none)) (fun v H2 => v = .non ∧ ∃ (d : Addr) (fs : List (Str × V)), H2 a = some (exo a C (some d)) ∧ H2 d = some (exd d fs) ∧ H1 d = none ∧ Q (.ref C) (some d) (upd (del H2 a) d (.xd fs))) (fun _ _ _ => False) := by
  refine ⟨(show 2 ≤ 1000 by decide), fun a ha => ⟨a, C, y, z, rfl, x, o, n, n2, upd_same, fun dx hdx ne => ⟨rfl, dx, [(g, z), (f, y)], ?_, upd_same, ?_, h dx _ (fun b u hu => ?_) upd_same⟩⟩⟩
  · rw [upd_ne (Ne.symm ne), upd_same]
  · rwa [upd_ne ne] at hdx
  · have nb : b ≠ a := ne_of_none hu ha
    have nd : b ≠ dx := fun e => by rw [e] at hu; rw [upd_ne ne, hu] at hdx; cases hdx
    rw [upd_ne nd, del_ne nb, upd_ne nd, upd_ne nb, upd_ne nd, upd_ne nb]
    exact hu
end
end Bk
set_option Elab.async false
set_option linter.all false
set_option maxRecDepth 100000
set_option maxHeartbeats 4000000
/-! Bk16: what a wood is refused for. -/
namespace Bk
open PySem PySem.Spec PyProof.Rows L2
end Bk
set_option Elab.async false
set_option linter.all false
set_option maxRecDepth 100000
set_option maxHeartbeats 4000000
/-! Bk17: caught errors with fields, isinstance by a tuple of classes; texts and tuples times a number. -/
namespace Bk
open PySem PySem.Spec PyProof.Rows L2
theorem vals_refs : ∀ {Cs : List Addr} {us : List Value}, Vals (Cs.map V.ref) us → us = Cs.map Value.ref
  | [], us, h => by cases h; rfl
  | C :: Cs, us, h => by
    cases h with
    | cons r rr =>
      cases (show _ = Value.ref C from r)
      rw [vals_refs rr]
      rfl
/-- a text, n times -/
def repS (x : Str) (n : Int) : Str := ⟨(List.replicate n.toNat x.cps.toList).flatten.toArray⟩
theorem foldl_cps (c : Array Nat) : ∀ (m : Nat) (acc : Array Nat), (List.replicate m c).foldl (· ++ ·) acc = acc ++ (List.replicate m c.toList).flatten.toArray
  | 0, acc => by simp
  | m + 1, acc => by
    rw [List.replicate_succ, List.foldl_cons, foldl_cps c m, List.replicate_succ, List.flatten_cons]
    apply Array.ext'
    simp
theorem repS_len (x : Str) (n : Int) : (repS x n).length = n.toNat * x.length := by
  show (List.replicate n.toNat x.cps.toList).flatten.toArray.size = n.toNat * x.cps.size
  simp
def rRepS : R2 := fun x y H Q => ∃ (a : Str) (n : Int), x = .str a ∧ y = .int n ∧ 0 ≤ n ∧ n ≤ 10000 ∧ a.length ≤ 100 ∧ Q (.str (repS a n)) H
section
variable {X : Cx}
theorem op_repS : OpR X (binaryOp .Mult) rRepS := by
  intro pins s σ H x y v u Q I rx ry h
  obtain ⟨a, n, rfl, rfl, h0, h1, ha, q⟩ := h
  obtain ⟨t, rfl⟩ := rx
  obtain ⟨t', rfl⟩ := ry
  have hl : a.length * n.toNat ≤ 100 * 10000 := Nat.mul_le_mul ha (by omega)
  refine PySem.P.mul_str (by rw [decide_eq_false (by omega), decide_eq_false (by omega)]; rfl) (fun h2 _ => ?_) (fun h2 _ => ?_) ?_
  · have e : (10 : Int) ^ 6 ≤ (2 ^ 63 - 1) / n := by
      refine Int.le_ediv_of_mul_le (by omega) ?_
      have : (10 : Int) ^ 6 * n ≤ 10 ^ 6 * 10000 := Int.mul_le_mul_of_nonneg_left h1 (by decide)
      omega
    omega
  · show decide (_ > _) = false
    exact decide_eq_false (Nat.not_lt.mpr (Nat.le_trans hl (by decide)))
  · by_cases c : n < 1
    · rw [if_pos c]
      have en : n = 0 := by omega
      subst en
      refine ⟨by decide, ?_⟩
      exact ⟨.str (repS a 0), H, I.tok _, ⟨_, rfl⟩, q⟩
    · rw [if_neg c]
      by_cases c2 : (n == 1 || a.length == 0) = true
      · rw [if_pos c2]
        have e : repS a n = a := by
          rcases Bool.or_eq_true_iff.mp c2 with z | z
          · have en : n = 1 := by simpa using z
            subst en
            show Str.mk _ = a
            simp
          · have ez0 : a.length = 0 := by simpa using z
            have ez : a.cps.size = 0 := ez0
            obtain ⟨⟨l⟩⟩ := a
            have : l = [] := List.eq_nil_of_length_eq_zero ez
            subst this
            show Str.mk _ = _
            simp
        rw [e] at q
        exact ⟨.str a, H, I, ⟨_, rfl⟩, q⟩
      · rw [if_neg c2]
        have e : (⟨(List.replicate n.toNat a.cps).foldl (fun x y => x ++ y) #[]⟩ : Str) = repS a n := by
          unfold repS
          rw [foldl_cps a.cps n.toNat #[]]
          simp
        rw [e]
        refine ⟨?_, ?_⟩
        · rw [repS_len]
          exact Nat.le_trans (by rw [Nat.mul_comm]; exact hl) (by decide)
        · exact ⟨.str (repS a n), H, I.tok _, ⟨_, rfl⟩, q⟩
end
section
variable {K : PySem.W.Frag} {H : Hp} {Q : VK} {σ : L2.St}
theorem g_repS {a : Str} {n : Int} (h0 : 0 ≤ n) (h1 : n ≤ 10000) (ha : a.length ≤ 100) (q : Q (.str (repS a n)) H) : rRepS (.str a) (.int n) H Q := ⟨a, n, rfl, rfl, h0, h1, ha, q⟩
end
end Bk
set_option Elab.async false
set_option linter.all false
set_option maxRecDepth 100000
set_option maxHeartbeats 4000000
/-! Bk18: woods of any kind, let by or refused. -/
namespace Bk
open PySem PySem.Spec PyProof.Rows L2
/-- a wood within bounds, of any names -/
structure WdB (w : Wd) : Prop where
  wide : w.length ≤ 500
  name : ∀ k ∈ w, TextOk k.1
  row : ∀ k ∈ w, k.2.length ≤ 500
  mkr : ∀ k ∈ w, ∀ m ∈ k.2, TextOk m.1 ∧ m.2.length ≤ 500 ∧ ∀ s ∈ m.2, TextOk s
theorem TextOk.le {s : Str} (h : TextOk s) : s.length ≤ 100000 := Nat.le_trans h.1 (by decide)
theorem isName_text {s : Str} (h : isName s = true) : TextOk s := by
  have h2 := low_ok (isName_low h)
  unfold isName at h
  simp only [Bool.and_eq_true, decide_eq_true_eq] at h
  exact ⟨by omega, h2⟩
theorem WoodOk.bnd {w : Wd} (h : WoodOk w) : WdB w := ⟨by have := h.kinds; omega, fun k hk => isName_text (h.name k hk), fun k hk => by
    obtain ⟨i, hi⟩ := List.mem_iff_getElem?.1 hk
    have := h.many
    rw [tab_split w 0 i k hi, List.length_append, List.length_append, List.length_map] at this
    omega, fun k hk m hm => by
    have z := h.mkr k hk m hm
    refine ⟨isName_text z.1, by omega, fun s hs => ?_⟩
    obtain ⟨k', hk', rfl⟩ := List.mem_map.1 (z.2.2 s hs)
    exact isName_text (h.name k' hk')⟩
def KeysX (kvs : List (L2.Key × V)) (L : List Str) : Prop := kvs.length = L.length ∧ (∀ s, (valV kvs (.inr s)).isSome = true ↔ s ∈ L)
theorem putK_new {kvs : List (L2.Key × V)} {k : L2.Key} {v : V} (h : valV kvs k = none) : (putK kvs k v).length = kvs.length + 1 := by
  have hz : kvs.find? (fun kv => decide (kv.1 = k)) = none := by
    unfold valV at h
    exact Option.map_eq_none_iff.1 h
  unfold putK
  rw [if_neg, List.length_append, List.length_singleton]
  intro z
  obtain ⟨kv, hkv, e⟩ := List.any_eq_true.1 z
  exact List.find?_eq_none.1 hz kv hkv e
theorem KeysX.none {kvs : List (L2.Key × V)} {L : List Str} {s : Str} (h : KeysX kvs L) (hn : s ∉ L) : valV kvs (.inr s) = none := by
  cases e : valV kvs (.inr s) with
  | none => rfl
  | some v => exact absurd ((h.2 s).1 (by rw [e]; rfl)) hn
theorem KeysX.put {kvs : List (L2.Key × V)} {L : List Str} {s : Str} {v : V} (h : KeysX kvs L) (hn : s ∉ L) : KeysX (putK kvs (.inr s) v) (L ++ [s]) := by
  have z : KeysIn kvs L := ⟨by rw [h.1]; exact Nat.le_refl _, h.2⟩
  exact ⟨by rw [putK_new (h.none hn), h.1, List.length_append, List.length_singleton], (z.put (v := v)).2⟩
theorem acc_map {α : Type} {acc : List V} {xs : List α} {f : α → V} (hl : acc.length = xs.length) (h : ∀ (j : Nat) (v : V), acc[j]? = some v → ∃ x, xs[j]? = some x ∧ v = f x) : acc = xs.map f := by
  refine List.ext_getElem? fun j => ?_
  rw [List.getElem?_map]
  cases c : acc[j]? with
  | none =>
    have := List.getElem?_eq_none_iff.1 c
    rw [List.getElem?_eq_none_iff.2 (by omega : xs.length ≤ j)]
    rfl
  | some v =>
    obtain ⟨x, hx, rfl⟩ := h j v c
    rw [hx]
    rfl
theorem drop_at {α : Type} {l : List α} {i : Nat} {x : α} (h : l[i]? = some x) : l.drop i = x :: l.drop (i + 1) := by
  obtain ⟨h1, h2⟩ := List.getElem?_eq_some_iff.1 h
  rw [← h2, List.getElem_cons_drop]
theorem take_at {α : Type} {l : List α} {i : Nat} {x : α} (h : l[i]? = some x) : l.take (i + 1) = l.take i ++ [x] := by
  rw [List.take_add_one, h]
  rfl
theorem i_nb {A B : Prop} {b : Bool} (h1 : b = false → A) (h2 : b = true → B) : if (!b) = true then A else B := by
  cases b with
  | false => rw [if_pos (by decide)]; exact h1 rfl
  | true => rw [if_neg (by decide)]; exact h2 rfl
/-- a wood drawn and spoilt n times -/
structure WdT (n : Nat) (w : Wd) : Prop where
  wide : w.length ≤ 4 + n
  name : ∀ k ∈ w, TextOk k.1
  row : ∀ k ∈ w, k.2.length ≤ 12 + 5 * n
  mkr : ∀ k ∈ w, ∀ m ∈ k.2, TextOk m.1 ∧ m.2.length ≤ 2 + 7 * n ∧ ∀ s ∈ m.2, TextOk s
theorem WdT.bnd {n : Nat} {w : Wd} (h : WdT n w) (hn : n ≤ 20) : WdB w := ⟨by have := h.wide; omega, h.name, fun k hk => by have := h.row k hk; omega, fun k hk m hm => by
  obtain ⟨a, b, c⟩ := h.mkr k hk m hm
  exact ⟨a, by omega, c⟩⟩
end Bk
set_option Elab.async false
set_option linter.all false
set_option maxRecDepth 100000
set_option maxHeartbeats 4000000
/-! Bk19: a wood laid out as lists, by the sorts of its objects. -/
namespace Bk
open PySem PySem.Spec PyProof.Rows L2
abbrev Sorts := Addr → Nat
/-- an object of a sort: 1 a kind's row, 2 a list of makers, 3 a maker -/
def Sorted (n : Nat) (c : Sorts) (H : Hp) (k : Nat) (o : HO) : Prop :=
  (k = 1 → ∃ (s : Str) (b : Addr), o = .lst [.str s, .ref b] ∧ TextOk s ∧ c b = 2) ∧
  (k = 2 → ∃ xs : List V, o = .lst xs ∧ xs.length ≤ 12 + 5 * n ∧ ∀ x ∈ xs, ∃ b, x = .ref b ∧ c b = 3) ∧
  (k = 3 → ∃ (s : Str) (t : Addr) (ps : List Str), o = .lst [.str s, .ref t] ∧ TextOk s ∧ H t = some (.tup (ps.map V.str)) ∧ ps.length ≤ 2 + 7 * n ∧ ∀ p ∈ ps, TextOk p)
def TyH (n : Nat) (c : Sorts) (H : Hp) : Prop := ∀ a, c a ≠ 0 → c a ≤ 3 ∧ ∃ o, H a = some o ∧ Sorted n c H (c a) o
def setC (c : Sorts) (a : Addr) (k : Nat) : Sorts := fun b => if b = a then k else c b
theorem setC_same {c : Sorts} {a : Addr} {k : Nat} : setC c a k a = k := if_pos rfl
theorem setC_ne {c : Sorts} {a b : Addr} {k : Nat} (h : b ≠ a) : setC c a k b = c b := if_neg h
theorem Sorted.lst {n : Nat} {c : Sorts} {H : Hp} {k : Nat} {o : HO} (h : Sorted n c H k o) (h0 : k ≠ 0) (h3 : k ≤ 3) : ∃ xs, o = .lst xs := by
  have : k = 1 ∨ k = 2 ∨ k = 3 := by omega
  rcases this with rfl | rfl | rfl
  · obtain ⟨_, _, e, _⟩ := h.1 rfl
    exact ⟨_, e⟩
  · obtain ⟨_, e, _⟩ := h.2.1 rfl
    exact ⟨_, e⟩
  · obtain ⟨_, _, _, e, _⟩ := h.2.2 rfl
    exact ⟨_, e⟩
theorem TyH.lst {n : Nat} {c : Sorts} {H : Hp} (h : TyH n c H) {a : Addr} (ha : c a ≠ 0) : ∃ xs, H a = some (.lst xs) := by
  obtain ⟨l, o, e, s⟩ := h a ha
  obtain ⟨xs, rfl⟩ := s.lst ha l
  exact ⟨xs, e⟩
theorem TyH.c0 {n : Nat} {c : Sorts} {H : Hp} (h : TyH n c H) {a : Addr} (ha : H a = none) : c a = 0 := by
  refine Classical.byContradiction fun z => ?_
  obtain ⟨xs, e⟩ := h.lst z
  rw [ha] at e
  cases e
theorem Sorted.mono {n n' : Nat} {c c' : Sorts} {H H' : Hp} {k : Nat} {o : HO} (hn : n ≤ n') (hc : ∀ b, c b ≠ 0 → c' b = c b) (ht : Tk H H') (h : Sorted n c H k o) : Sorted n' c' H' k o := by
  refine ⟨fun e => ?_, fun e => ?_, fun e => ?_⟩
  · obtain ⟨s, b, e1, e2, e3⟩ := h.1 e
    exact ⟨s, b, e1, e2, by rw [hc b (by omega)]; exact e3⟩
  · obtain ⟨xs, e1, e2, e3⟩ := h.2.1 e
    refine ⟨xs, e1, by omega, fun x hx => ?_⟩
    obtain ⟨b, e4, e5⟩ := e3 x hx
    exact ⟨b, e4, by rw [hc b (by omega)]; exact e5⟩
  · obtain ⟨s, t, ps, e1, e2, e3, e4, e5⟩ := h.2.2 e
    exact ⟨s, t, ps, e1, e2, ht _ _ e3, by omega, e5⟩
/-- what keeps the sorted objects and all tuples -/
theorem TyH.keep {n : Nat} {c : Sorts} {H H' : Hp} (h : TyH n c H) (ht : Tk H H') (hk : ∀ a, c a ≠ 0 → H' a = H a) : TyH n c H' := fun a ha => by
  obtain ⟨l, o, e, s⟩ := h a ha
  exact ⟨l, o, (hk a ha).trans e, s.mono (Nat.le_refl _) (fun _ _ => rfl) ht⟩
theorem TyH.ex {n : Nat} {c : Sorts} {H H' : Hp} (h : TyH n c H) (e : Ex H H') : TyH n c H' := h.keep e.tk fun a ha => by
  obtain ⟨xs, q⟩ := h.lst ha
  rw [q, e _ _ q]
theorem TyH.le {n m : Nat} {c : Sorts} {H : Hp} (h : TyH n c H) (hn : n ≤ m) : TyH m c H := fun a ha => by
  obtain ⟨l, o, e, s⟩ := h a ha
  exact ⟨l, o, e, s.mono hn (fun _ _ => rfl) (Tk.refl _)⟩
/-- a sorted object changed -/
theorem TyH.set {n : Nat} {c : Sorts} {H : Hp} {a : Addr} {o : HO} (h : TyH n c H) (ha : c a ≠ 0) (ho : Sorted n c H (c a) o) : TyH n c (upd H a o) := by
  obtain ⟨xs, q⟩ := h.lst ha
  have t : Tk H (upd H a o) := ((But.refl a H).upd).tkl q
  intro b hb
  by_cases e : b = a
  · subst e
    exact ⟨(h b hb).1, o, upd_same, ho.mono (Nat.le_refl _) (fun _ _ => rfl) t⟩
  · obtain ⟨l, o', e1, s⟩ := h b hb
    exact ⟨l, o', by rw [upd_ne e]; exact e1, s.mono (Nat.le_refl _) (fun _ _ => rfl) t⟩
/-- an object that had no sort gets one -/
theorem TyH.cls {n : Nat} {c : Sorts} {H : Hp} {a : Addr} {k : Nat} {o : HO} (h : TyH n c H) (ha : c a = 0) (hk : k ≤ 3) (q : H a = some o) (ho : Sorted n c H k o) : TyH n (setC c a k) H ∧ ∀ b, c b ≠ 0 → setC c a k b = c b := by
  have hc : ∀ b, c b ≠ 0 → setC c a k b = c b := fun b hb => setC_ne fun e => hb (e ▸ ha)
  refine ⟨fun b hb => ?_, hc⟩
  by_cases e : b = a
  · subst e
    rw [setC_same]
    exact ⟨hk, o, q, ho.mono (Nat.le_refl _) hc (Tk.refl _)⟩
  · rw [setC_ne e] at hb ⊢
    obtain ⟨l, o', e1, s⟩ := h b hb
    exact ⟨l, o', e1, s.mono (Nat.le_refl _) hc (Tk.refl _)⟩
/-- an unsorted list changed -/
theorem TyH.other {n : Nat} {c : Sorts} {H : Hp} {a : Addr} {o : HO} {xs : List V} (h : TyH n c H) (ha : c a = 0) (q : H a = some (.lst xs)) : TyH n c (upd H a o) :=
  h.keep (((But.refl a H).upd).tkl q) fun b hb => upd_ne fun e => hb (e ▸ ha)
theorem TyH.but {n : Nat} {c : Sorts} {H H' : Hp} {p : Addr} (h : TyH n c H) (b : But p H H') (hp : Box H p) (c0 : c p = 0) : TyH n c H' := h.keep (hp.tk b) fun a ha => by
  obtain ⟨xs, q⟩ := h.lst ha
  have ne : a ≠ p := fun e => ha (by rw [e]; exact c0)
  rw [q, b _ _ ne q]
/-- fresh: what is sorted is new to H0 -/
def FreshC (c : Sorts) (H0 : Hp) : Prop := ∀ a, c a ≠ 0 → H0 a = none
theorem FreshC.set {c : Sorts} {H0 : Hp} {a : Addr} {k : Nat} (h : FreshC c H0) (ha : H0 a = none) : FreshC (setC c a k) H0 := fun b hb => by
  by_cases e : b = a
  · rw [e]; exact ha
  · rw [setC_ne e] at hb
    exact h b hb
/-- the rows: a list of such -/
def RowsAt (m : Nat) (c : Sorts) (xs : List V) : Prop := xs.length ≤ m ∧ ∀ x ∈ xs, ∃ b, x = .ref b ∧ c b = 1
theorem RowsAt.mono {m : Nat} {c c' : Sorts} {xs : List V} (h : RowsAt m c xs) (hc : ∀ b, c b ≠ 0 → c' b = c b) : RowsAt m c' xs := ⟨h.1, fun x hx => by
  obtain ⟨b, e, q⟩ := h.2 x hx
  exact ⟨b, e, by rw [hc b (by omega)]; exact q⟩⟩
/-! ### a list compared with the empty one -/
def DpOk (K : PySem.W.Frag) (H : Hp) (v : V) (k : Nat) : Prop := ∃ d, Dp K H v d ∧ d.canLay0 = true ∧ d.depth ≤ k
theorem dpok_str {K : PySem.W.Frag} {H : Hp} {s : Str} {k : Nat} (h : ∀ c ∈ s.cps.toList, c < 0x110000) : DpOk K H (.str s) k := ⟨.str s, .str s, by
  show s.cps.all (· < 0x110000) = true
  rw [Array.all_eq_true']
  intro x hx
  exact decide_eq_true (h x (Array.mem_toList_iff.2 hx)), Nat.zero_le _⟩
theorem dpok_all {K : PySem.W.Frag} {H : Hp} {k : Nat} : ∀ {xs : List V}, (∀ x ∈ xs, DpOk K H x k) → ∃ ds, DpAll K H xs ds ∧ PyData.canLayAll0 ds = true ∧ PyData.depthAll ds ≤ k ∧ ds.length = xs.length
  | [], _ => ⟨[], .nil, rfl, Nat.zero_le _, rfl⟩
  | x :: xs, h => by
    obtain ⟨d, h1, h2, h3⟩ := h x List.mem_cons_self
    obtain ⟨ds, k1, k2, k3, k4⟩ := dpok_all (xs := xs) fun y hy => h y (List.mem_cons_of_mem _ hy)
    refine ⟨d :: ds, .cons h1 k1, ?_, ?_, by simp [k4]⟩
    · show (d.canLay0 && PyData.canLayAll0 ds) = true
      rw [h2, k2]
      rfl
    · show max d.depth (PyData.depthAll ds) ≤ k
      omega
theorem dpok_tup {K : PySem.W.Frag} {H : Hp} {a : Addr} {xs : List V} {k : Nat} (ha : H a = some (.tup xs)) (h : ∀ x ∈ xs, DpOk K H x k) : DpOk K H (.ref a) (k + 1) := by
  obtain ⟨ds, h1, h2, h3, _⟩ := dpok_all h
  refine ⟨.tuple ds, .tup (sqT ha) h1, h2, ?_⟩
  show PyData.depthAll ds + 1 ≤ k + 1
  omega
theorem g_neNil {K : PySem.W.Frag} {H : Hp} {Q : VK} {a b : Addr} {xs : List V} (ha : H a = some (.lst xs)) (hb : H b = some (.lst [])) (h : ∀ x ∈ xs, DpOk K H x 60) (q : Q (.bl (!xs.isEmpty)) H) : rNeD K (.ref a) (.ref b) H Q := by
  obtain ⟨ds, h1, h2, h3, h4⟩ := dpok_all h
  refine ⟨.list ds, .list [], .lst (sqL ha) h1, .lst (sqL hb) .nil, ?_, rfl, ?_⟩
  · show (PyData.canLayAll0 ds && decide (PyData.depthAll ds + 1 ≤ 64)) = true
    rw [h2, decide_eq_true (by omega)]
    rfl
  · have e : PyData.eqv (.list ds) (.list []) = xs.isEmpty := by
      show PyData.eqvAll ds [] = xs.isEmpty
      cases ds with
      | nil =>
        have : xs = [] := List.eq_nil_of_length_eq_zero h4.symm
        subst this
        rfl
      | cons d ds =>
        cases xs with
        | nil => cases h4
        | cons x xs => rfl
    rw [e]
    exact q
/-! ### the state while a wood is spoilt -/
structure SpSt (p R : Addr) (n m : Nat) (c : Sorts) (H H1 : Hp) (rows : List V) : Prop where
  bx0 : Box H p
  bt : But p H H1
  bx : Box H1 p
  at_ : H1 R = some (.lst rows)
  ty : TyH n c H1
  fr : FreshC c H
  cR : c R = 0
  hR : H R = none
  rw : RowsAt m c rows
section
variable {p R : Addr} {n m : Nat} {c : Sorts} {H H1 H2 : Hp} {rows : List V}
theorem SpSt.np (s : SpSt p R n m c H H1 rows) {a : Addr} (ha : H a = none) : a ≠ p := fun e => by
  obtain ⟨_, _, _, q⟩ := s.bx0
  rw [← e, ha] at q
  cases q
theorem SpSt.cp (s : SpSt p R n m c H H1 rows) : c p = 0 := Classical.byContradiction fun z => s.np (s.fr p z) rfl
theorem SpSt.free (s : SpSt p R n m c H H1 rows) {a : Addr} (ha : H1 a = none) : H a = none := by
  cases e : H a with
  | none => rfl
  | some o =>
    by_cases z : a = p
    · subst z
      obtain ⟨_, _, _, q⟩ := s.bx
      rw [ha] at q
      cases q
    · rw [s.bt _ _ z e] at ha
      cases ha
theorem SpSt.but (s : SpSt p R n m c H H1 rows) (b : But p H1 H2) (hb : Box H2 p) : SpSt p R n m c H H2 rows :=
  ⟨s.bx0, s.bt.trans b, hb, b _ _ (s.np s.hR) s.at_, s.ty.but b s.bx s.cp, s.fr, s.cR, s.hR, s.rw⟩
theorem SpSt.ex (s : SpSt p R n m c H H1 rows) (e : Ex H1 H2) : SpSt p R n m c H H2 rows := s.but (e.but p) (s.bx.ex e)
/-- an unsorted new list changed -/
theorem SpSt.other (s : SpSt p R n m c H H1 rows) {a : Addr} {o : HO} {xs : List V} (cN : c a = 0) (hN : H a = none) (q : H1 a = some (.lst xs)) (ne : R ≠ a) : SpSt p R n m c H (upd H1 a o) rows :=
  ⟨s.bx0, s.bt.at_new hN, s.bx.at_upd (s.np hN), by rw [upd_ne ne]; exact s.at_, s.ty.other cN q, s.fr, s.cR, s.hR, s.rw⟩
/-- a sorted object changed -/
theorem SpSt.set (s : SpSt p R n m c H H1 rows) {a : Addr} {o : HO} (ha : c a ≠ 0) (ho : Sorted n c H1 (c a) o) : SpSt p R n m c H (upd H1 a o) rows :=
  ⟨s.bx0, s.bt.at_new (s.fr a ha), s.bx.at_upd (s.np (s.fr a ha)), by rw [upd_ne (fun e => ha (by rw [← e]; exact s.cR))]; exact s.at_, s.ty.set ha ho, s.fr, s.cR, s.hR, s.rw⟩
/-- a new sorted object -/
theorem SpSt.cls (s : SpSt p R n m c H H1 rows) {a : Addr} {k : Nat} {o : HO} (ha : c a = 0) (hN : H a = none) (ne : R ≠ a) (hk : k ≤ 3) (q : H1 a = some o) (ho : Sorted n c H1 k o) : SpSt p R n m (setC c a k) H H1 rows ∧ ∀ b, c b ≠ 0 → setC c a k b = c b := by
  obtain ⟨h1, h2⟩ := s.ty.cls ha hk q ho
  exact ⟨⟨s.bx0, s.bt, s.bx, s.at_, h1, s.fr.set hN, by rw [setC_ne ne]; exact s.cR, s.hR, s.rw.mono h2⟩, h2⟩
/-- other rows -/
theorem SpSt.put (s : SpSt p R n m c H H1 rows) {m' : Nat} {rows' : List V} (h : RowsAt m' c rows') : SpSt p R n m' c H (upd H1 R (.lst rows')) rows' :=
  ⟨s.bx0, s.bt.at_new s.hR, s.bx.at_upd (s.np s.hR), upd_same, s.ty.other s.cR s.at_, s.fr, s.cR, s.hR, h⟩
theorem SpSt.le (s : SpSt p R n m c H H1 rows) {n' m' : Nat} (h1 : n ≤ n') (h2 : m ≤ m') : SpSt p R n' m' c H H1 rows :=
  ⟨s.bx0, s.bt, s.bx, s.at_, s.ty.le h1, s.fr, s.cR, s.hR, Nat.le_trans s.rw.1 h2, s.rw.2⟩
end
end Bk
set_option Elab.async false
set_option linter.all false
set_option maxRecDepth 100000
set_option maxHeartbeats 4000000
/-! Bk20: zip(a, b, strict=True), a and b lists or tuples of one length. -/
namespace Bk
open PySem PySem.Spec PyProof.Rows L2
abbrev IsZipS (h : Heap) (z TI TO : Addr) (f0 : Value) : Prop := h.get? z = some { cls := .type "zip", dict := none, data := .fields #[f0, .bool false, .bool true, .ref TI, .ref TO], slots := #[] }
section
variable {prog : Program} {w : World} {A : Around} {E : Value → Shared → Prop} {s : Shared}
theorem oe_item {k : Bool} {it l : Addr} {i : Nat} {xs : Array Value} {x : Value} {Q : Option Value → Shared → Prop} (hit : SIt s.heap k it l i xs) (hn : l ≠ it) (hx : xs[i]? = some x)
    (hQ : ∀ h', SIt h' k it l (i + 1) xs → Heap.SameBut it s.heap h' → Q (some x) { s with heap := h' }) : wpAny (model prog w) A (Builtin.SmallTypes.nextOrEnd (.ref it)) Q E s := by
  unfold Builtin.SmallTypes.nextOrEnd
  exact wpAny_bind (wpAny_attempt (sit_item hit hn hx fun h' a b => wpAny_pure (hQ h' a b)))
theorem oe_end {k : Bool} {it l : Addr} {i : Nat} {xs : Array Value} {Q : Option Value → Shared → Prop} (hh : A.handled = none) (hit : SIt s.heap k it l i xs) (hx : xs[i]? = none)
    (hQ : ∀ h', Heap.ExtBut it s.heap h' → Q none { s with heap := h' }) : wpAny (model prog w) A (Builtin.SmallTypes.nextOrEnd (.ref it)) Q E s := by
  unfold Builtin.SmallTypes.nextOrEnd
  refine wpAny_bind (wpAny_attempt (sit_end hh hit hx fun h' e hs he => ?_))
  obtain ⟨o, ho, hc⟩ := he
  refine wpAny_bind (wpAny_isInstance (T := "StopIteration") (b := true) ⟨o, ho, hc⟩ isSubtype_stop ?_)
  exact wpAny_pure (hQ _ hs)
theorem sz_item {k1 k2 : Bool} {z TI TO i1 i2 l1 l2 : Addr} {i : Nat} {xs ys : Array Value} {x y a b : Value} {Q : Value → Shared → Prop} (D : ZipApart z TI TO i1 i2 l1 l2)
    (hz : IsZipS s.heap z TI TO .none) (hTI : IsPair s.heap TI (.ref i1) (.ref i2)) (hTO : IsPair s.heap TO a b) (h1 : SIt s.heap k1 i1 l1 i xs) (h2 : SIt s.heap k2 i2 l2 i ys) (hx : xs[i]? = some x) (hy : ys[i]? = some y)
    (hQ : ∀ h', IsZipS h' z TI TO (rawInt s.heap.objs.size) → IsPair h' TO x y → SIt h' k1 i1 l1 (i + 1) xs → SIt h' k2 i2 l2 (i + 1) ys → IsPair h' s.heap.objs.size x y → h'.objs.size = s.heap.objs.size + 1 →
      (∀ c o, c ≠ z → c ≠ TO → c ≠ i1 → c ≠ i2 → s.heap.get? c = some o → h'.get? c = some o) → Q (.ref s.heap.objs.size) { s with heap := h' }) :
    wpAny (model prog w) A (Builtin.«zip.__next__» ⟨[.ref z], []⟩) (fun fin s' => ∃ v, fin = .done (.ret v) ∧ Q v s') E s := by
  show wpAny _ _ (field (.ref z) 2 >>= _) _ _ _
  refine wpAny_bind (wpAny_field hz rfl (x := .bool true) rfl ?_)
  show wpAny _ _ (field (.ref z) 3 >>= _) _ _ _
  refine wpAny_bind (wpAny_field hz rfl (x := .ref TI) rfl ?_)
  refine wpAny_bind (wpAny_seqItems hTI rfl ?_)
  show wpAny _ _ (Builtin.SmallTypes.ownedTupleIsFree (.ref z) >>= _) _ _ _
  refine wpAny_bind ?_
  unfold Builtin.SmallTypes.ownedTupleIsFree
  refine wpAny_bind (wpAny_field hz rfl (x := .none) rfl (wpAny_pure ?_))
  simp only [if_true]
  refine wpAny_bind (wpAny_rule ?_)
  refine wpAny_bind (wpAny_field hz rfl (x := .ref TO) rfl ?_)
  refine wpAny_bind (wpAny_setField_rec hz (by simp) fun g1 hz1 hs1 => ?_)
  replace hz1 : IsZipS g1 z TI TO .ellipsis := hz1
  refine wpAny_bind ?_
  simp only [List.zipIdx_cons, List.zipIdx_nil, List.forIn_cons, List.forIn_nil]
  refine wpAny_bind (wpAny_bind (wpAny_onRaise ?_))
  show wpAny _ _ (Builtin.SmallTypes.nextOrEnd (.ref i1)) _ _ _
  refine oe_item (h1.keep (fun o e => hs1.extBut _ _ D.i1z e) (fun o e => hs1.extBut _ _ D.l1z e)) D.l1i1 hx fun g2 h12 hs2 => ?_
  have hTO2 : IsPair g2 TO a b := hs2.extBut _ _ D.TOi1 (hs1.extBut _ _ D.TOz hTO)
  refine wpAny_bind (wpAny_seqItems hTO2 rfl ?_)
  refine wpAny_bind (wpAny_updateSeq_pair hTO2 fun g3 hTO3 hs3 => ?_)
  replace hTO3 : IsPair g3 TO x b := hTO3
  refine wpAny_bind (wpAny_letGo (wpAny_pure ?_))
  refine wpAny_bind (wpAny_bind (wpAny_onRaise ?_))
  show wpAny _ _ (Builtin.SmallTypes.nextOrEnd (.ref i2)) _ _ _
  refine oe_item (h2.keep (fun o e => hs3.extBut _ _ D.TOi2.symm (hs2.extBut _ _ D.i12.symm (hs1.extBut _ _ D.i2z e))) (fun o e => hs3.extBut _ _ D.l2TO (hs2.extBut _ _ D.l2i1 (hs1.extBut _ _ D.l2z e)))) D.l2i2 hy fun g4 h24 hs4 => ?_
  have hTO4 : IsPair g4 TO x b := hs4.extBut _ _ D.TOi2 hTO3
  refine wpAny_bind (wpAny_seqItems hTO4 rfl ?_)
  refine wpAny_bind (wpAny_updateSeq_pair hTO4 fun g5 hTO5 hs5 => ?_)
  replace hTO5 : IsPair g5 TO x y := hTO5
  refine wpAny_bind (wpAny_letGo (wpAny_pure (wpAny_pure ?_)))
  refine wpAny_bind (wpAny_seqItems hTO5 rfl ?_)
  refine wpAny_bind (wpAny_newTuple ?_)
  have hsz : g5.objs.size = s.heap.objs.size := by rw [hs5.1, hs4.1, hs3.1, hs2.1, hs1.1]
  have kp : ∀ c o, c ≠ z → c ≠ TO → c ≠ i1 → c ≠ i2 → s.heap.get? c = some o → g5.get? c = some o := fun c o c1 c2 c3 c4 e =>
    hs5.extBut _ _ c2 (hs4.extBut _ _ c4 (hs3.extBut _ _ c2 (hs2.extBut _ _ c3 (hs1.extBut _ _ c1 e))))
  have hz5 : IsZipS g5 z TI TO .ellipsis := hs5.extBut _ _ D.TOz.symm (hs4.extBut _ _ D.i2z.symm (hs3.extBut _ _ D.TOz.symm (hs2.extBut _ _ D.i1z.symm hz1)))
  have h15 : SIt g5 k1 i1 l1 (i + 1) xs := h12.keep (fun o e => hs5.extBut _ _ D.TOi1.symm (hs4.extBut _ _ D.i12 (hs3.extBut _ _ D.TOi1.symm e))) (fun o e => hs5.extBut _ _ D.l1TO (hs4.extBut _ _ D.l1i2 (hs3.extBut _ _ D.l1TO e)))
  have h25 : SIt g5 k2 i2 l2 (i + 1) ys := h24.keep (fun o e => hs5.extBut _ _ D.TOi2.symm e) (fun o e => hs5.extBut _ _ D.l2TO e)
  have hzlt : z < g5.objs.size := Heap.lt_size hz5
  show wpAny _ _ (Builtin.SmallTypes.ownedTupleHandOut (.ref z) (.ref g5.objs.size) >>= _) _ _ _
  refine wpAny_bind ?_
  unfold Builtin.SmallTypes.ownedTupleHandOut
  have hz6 : IsZipS (g5.push { cls := .type "tuple", data := .seq #[x, y] }) z TI TO .ellipsis := Heap.get?_push_of_some _ hz5
  refine wpAny_bind (wpAny_setField_rec hz6 (by simp) fun g7 hz7 hs7 => ?_)
  replace hz7 : IsZipS g7 z TI TO (rawInt g5.objs.size) := hz7
  refine wpAny_setField_rec hz7 (by simp) fun g8 hz8 hs8 => ?_
  replace hz8 : IsZipS g8 z TI TO (rawInt g5.objs.size) := hz8
  have up : ∀ c o, c ≠ z → g5.get? c = some o → g8.get? c = some o := fun c o c1 e => hs8.extBut _ _ c1 (hs7.extBut _ _ c1 (Heap.get?_push_of_some _ e))
  have hT8 : IsPair g8 g5.objs.size x y := hs8.extBut _ _ (Nat.ne_of_gt hzlt) (hs7.extBut _ _ (Nat.ne_of_gt hzlt) (Heap.get?_push_size _ rfl))
  have z8 : g8.objs.size = g5.objs.size + 1 := by rw [hs8.1, hs7.1, Heap.size_push]
  rw [hsz] at hz8 hT8 z8
  refine wpAny_pure ⟨_, rfl, ?_⟩
  show Q (.ref g5.objs.size) _
  rw [hsz]
  exact hQ g8 hz8 (up _ _ D.TOz hTO5) (h15.keep (fun o e => up _ o D.i1z e) (fun o e => up _ o D.l1z e)) (h25.keep (fun o e => up _ o D.i2z e) (fun o e => up _ o D.l2z e)) hT8 z8 fun c o c1 c2 c3 c4 e => up c o c1 (kp c o c1 c2 c3 c4 e)
theorem sz_end {k1 k2 : Bool} {z TI TO i1 i2 l1 l2 : Addr} {i : Nat} {xs ys : Array Value} {a b : Value} {Q : Fin → Shared → Prop} (hh : A.handled = none) (D : ZipApart z TI TO i1 i2 l1 l2)
    (hz : IsZipS s.heap z TI TO .none) (hTI : IsPair s.heap TI (.ref i1) (.ref i2)) (hTO : IsPair s.heap TO a b) (h1 : SIt s.heap k1 i1 l1 i xs) (h2 : SIt s.heap k2 i2 l2 i ys) (hx : xs[i]? = none) (hy : ys[i]? = none)
    (hE : ∀ h' e, (∀ c o, c ≠ z → c ≠ TO → c ≠ i1 → c ≠ i2 → s.heap.get? c = some o → h'.get? c = some o) → (∃ o, h'.get? e = some o ∧ o.cls = .type "StopIteration") → E (.ref e) { s with heap := h' }) :
    wpAny (model prog w) A (Builtin.«zip.__next__» ⟨[.ref z], []⟩) Q E s := by
  show wpAny _ _ (field (.ref z) 2 >>= _) _ _ _
  refine wpAny_bind (wpAny_field hz rfl (x := .bool true) rfl ?_)
  show wpAny _ _ (field (.ref z) 3 >>= _) _ _ _
  refine wpAny_bind (wpAny_field hz rfl (x := .ref TI) rfl ?_)
  refine wpAny_bind (wpAny_seqItems hTI rfl ?_)
  show wpAny _ _ (Builtin.SmallTypes.ownedTupleIsFree (.ref z) >>= _) _ _ _
  refine wpAny_bind ?_
  unfold Builtin.SmallTypes.ownedTupleIsFree
  refine wpAny_bind (wpAny_field hz rfl (x := .none) rfl (wpAny_pure ?_))
  simp only [if_true]
  refine wpAny_bind (wpAny_rule ?_)
  refine wpAny_bind (wpAny_field hz rfl (x := .ref TO) rfl ?_)
  refine wpAny_bind (wpAny_setField_rec hz (by simp) fun g1 hz1 hs1 => ?_)
  replace hz1 : IsZipS g1 z TI TO .ellipsis := hz1
  refine wpAny_bind ?_
  simp only [List.zipIdx_cons, List.zipIdx_nil, List.forIn_cons, List.forIn_nil]
  refine wpAny_bind (wpAny_bind (wpAny_onRaise ?_))
  show wpAny _ _ (Builtin.SmallTypes.nextOrEnd (.ref i1)) _ _ _
  refine oe_end hh (h1.keep (fun o e => hs1.extBut _ _ D.i1z e) (fun o e => hs1.extBut _ _ D.l1z e)) hx fun g2 hs2 => ?_
  have hz2 : IsZipS g2 z TI TO .ellipsis := hs2 _ _ D.i1z.symm hz1
  refine wpAny_bind (wpAny_setField_rec hz2 (by simp) fun g3 hz3 hs3 => ?_)
  refine wpAny_bind ?_
  show wpAny _ _ (forIn (([Value.ref i1, Value.ref i2].drop 1).zipIdx 1) _ _ >>= _) _ _ _
  refine wpAny_bind ?_
  simp only [List.drop_succ_cons, List.drop_zero, List.zipIdx_cons, List.zipIdx_nil, List.forIn_cons, List.forIn_nil]
  refine wpAny_bind (wpAny_bind (oe_end hh (h2.keep (fun o e => hs3.extBut _ _ D.i2z (hs2 _ _ D.i12.symm (hs1.extBut _ _ D.i2z e))) (fun o e => hs3.extBut _ _ D.l2z (hs2 _ _ D.l2i1 (hs1.extBut _ _ D.l2z e)))) hy fun g4 hs4 => ?_))
  simp only [Option.isSome_none, Bool.false_eq_true, if_false]
  refine wpAny_pure (wpAny_pure (wpAny_bind (wpAny_rule ?_)))
  show wpAny _ _ (newExc (.type "StopIteration") [] >>= _) _ _ _
  refine wpAny_bind ?_
  simp only [newExc, newTuple]
  refine wpAny_bind (wpAny_newObj_type ?_ (by size_fits))
  refine wpAny_bind (m := firstArgMember _ _) (wpAny_of_eq (a := Value.none) (by first | rfl | (simp only [firstArgMember]; rfl)) ?_)
  refine wpAny_newObj_type ?_ (by size_fits)
  simp only [raiseNew]
  refine wpAny_bind (wpAny_handled ?_)
  first | rw [show A.in1.handled = none from hh] | rw [hh]
  refine wpAny_bind (wpAny_pure (wpAny_throw ?_))
  refine hE _ _ (fun c o c1 c2 c3 c4 e => Heap.get?_push_of_some _ (Heap.get?_push_of_some _ (hs4 _ _ c4 (hs3.extBut _ _ c1 (hs2 _ _ c3 (hs1.extBut _ _ c1 e)))))) ⟨_, Heap.get?_push_size _ rfl, rfl⟩
theorem sz_nextItem {k1 k2 : Bool} {z TI TO i1 i2 l1 l2 : Addr} {i : Nat} {xs ys : Array Value} {x y a b : Value} {Q : Option Value → Shared → Prop} (D : ZipApart z TI TO i1 i2 l1 l2)
    (hz : IsZipS s.heap z TI TO .none) (hTI : IsPair s.heap TI (.ref i1) (.ref i2)) (hTO : IsPair s.heap TO a b) (h1 : SIt s.heap k1 i1 l1 i xs) (h2 : SIt s.heap k2 i2 l2 i ys) (hx : xs[i]? = some x) (hy : ys[i]? = some y)
    (hQ : ∀ h', IsZipS h' z TI TO (rawInt s.heap.objs.size) → IsPair h' TO x y → SIt h' k1 i1 l1 (i + 1) xs → SIt h' k2 i2 l2 (i + 1) ys → IsPair h' s.heap.objs.size x y → h'.objs.size = s.heap.objs.size + 1 →
      (∀ c o, c ≠ z → c ≠ TO → c ≠ i1 → c ≠ i2 → s.heap.get? c = some o → h'.get? c = some o) → Q (some (.ref s.heap.objs.size)) { s with heap := h' }) : wpAny (model prog w) A (pyNext (.ref z)) Q E s := by
  have hT : s.TypeIs (.ref z) "zip" := ⟨_, hz, rfl⟩
  unfold pyNext
  exact wpAny_bind (wpAny_attempt (wpAny_callSpecial?_slot (name := Str.ofString "__next__") hT F.slot_zip_next
    (wpAny_call_entry F.slot_zip_next hT F.entry_zip_next (sz_item D hz hTI hTO h1 h2 hx hy fun h' a1 a2 a3 a4 a5 a6 a7 => wpAny_pure (hQ h' a1 a2 a3 a4 a5 a6 a7)) (F.args_zip_next_1 _))))
theorem sz_nextEnd {k1 k2 : Bool} {z TI TO i1 i2 l1 l2 : Addr} {i : Nat} {xs ys : Array Value} {a b : Value} {Q : Option Value → Shared → Prop} (hh : A.handled = none) (D : ZipApart z TI TO i1 i2 l1 l2)
    (hz : IsZipS s.heap z TI TO .none) (hTI : IsPair s.heap TI (.ref i1) (.ref i2)) (hTO : IsPair s.heap TO a b) (h1 : SIt s.heap k1 i1 l1 i xs) (h2 : SIt s.heap k2 i2 l2 i ys) (hx : xs[i]? = none) (hy : ys[i]? = none)
    (hQ : ∀ h', (∀ c o, c ≠ z → c ≠ TO → c ≠ i1 → c ≠ i2 → s.heap.get? c = some o → h'.get? c = some o) → Q none { s with heap := h' }) : wpAny (model prog w) A (pyNext (.ref z)) Q E s := by
  have hT : s.TypeIs (.ref z) "zip" := ⟨_, hz, rfl⟩
  unfold pyNext
  refine wpAny_bind (wpAny_attempt (wpAny_callSpecial?_slot (name := Str.ofString "__next__") hT F.slot_zip_next
    (wpAny_call_entry F.slot_zip_next hT F.entry_zip_next (sz_end hh D hz hTI hTO h1 h2 hx hy fun h' e hk he => ?_) (F.args_zip_next_1 _))))
  obtain ⟨o, ho, hc⟩ := he
  refine wpAny_bind (wpAny_isInstance (T := "StopIteration") (b := true) ⟨o, ho, hc⟩ isSubtype_stop ?_)
  exact wpAny_pure (hQ _ hk)
theorem sz_go {elts : List Expr} {x1} {pos : Pos} {z TI TO T : Addr} {Q : Unit → Shared → Prop} (hz : IsZipS s.heap z TI TO (rawInt T)) (hQ : ∀ h', IsZipS h' z TI TO .none → Heap.SameBut z s.heap h' → Q () { s with heap := h' }) :
    wpAny (model prog w) A (letOwnedTupleGo (.Tuple elts x1 pos) (.ref z) (.ref T)) Q E s := by
  unfold letOwnedTupleGo
  refine wpAny_bind (wpAny_load hz ?_)
  show wpAny _ _ (if (["enumerate", "zip", "dict_itemiterator", "dict_reverseitemiterator", "odict_iterator", "itertools.zip_longest", "itertools.pairwise"].contains "zip" && (#[rawInt T, .bool false, .bool true, .ref TI, .ref TO] : Array Value)[0]? == some (rawInt T)) = true then _ else _) Q E s
  rw [if_pos (by simp)]
  refine wpAny_bind (wpAny_rule ?_)
  show wpAny _ _ (setField (.ref z) 0 .none) Q E s
  exact wpAny_setField_rec hz (by simp) fun h' hz' hs' => hQ h' hz' hs'
theorem sz_iter {z TI TO : Addr} {f0 : Value} {Q : Value → Shared → Prop} (hz : IsZipS s.heap z TI TO f0) (h : Q (.ref z) s) : wpAny (model prog w) A (pyIter (.ref z)) Q E s := by
  have hT : s.TypeIs (.ref z) "zip" := ⟨_, hz, rfl⟩
  refine wpAny_pyIter_slot hT F.slot_zip_iter (wpAny_call_entry F.slot_zip_iter hT F.entry_zip_iter ?_ (F.args_zip_iter_1 _))
  show wpAny _ _ (ret (.ref z)) _ _ s
  exact wpAny_pure ⟨_, rfl, "zip", _, hT, F.slot_zip_next.lookup, h⟩
end
theorem typeCall_zipS (a b v : Value) : checkTypeCall "zip" ⟨[a, b], [(Str.ofString "strict", v)]⟩ = pure () := by kernel_rfl
theorem newCall_zipS (a b v : Value) : checkBuiltinCall "zip.__new__" ⟨[.type "zip", a, b], [(Str.ofString "strict", v)]⟩ = pure () := by kernel_rfl
theorem args_zipS (obj a b v : Value) : argsOk "object.__init__" ⟨[obj, a, b], [(Str.ofString "strict", v)]⟩ := by unfold argsOk; kernel_rfl
abbrev szZ (h : Heap) (o1 o2 : Obj) : Heap := (gzO2 h o1 o2).push { cls := .type "zip", data := .fields #[.none, .bool false, .bool true, .ref ((h.push o1).push o2).objs.size, .ref (gzT2 h o1 o2).objs.size] }
theorem meets_zipS {v1 v2 : Value} {o1 o2 : Obj} {H1 H2 : Heap → Prop} (B1 : Begins v1 o1 H1) (B2 : Begins v2 o2 H2) :
    Meets (Builtin.«zip.__new__» ⟨[.type "zip", v1, v2], [(Str.ofString "strict", .bool true)]⟩) (fun _ R s => (H1 s.heap ∧ H2 s.heap) ∧ R (.ok (.ret (.ref (gzO2 s.heap o1 o2).objs.size))) { s with heap := szZ s.heap o1 o2 }) :=
  .of_wp fun prog w A R s h => by
    obtain ⟨hp, g, d, tk, os⟩ := s
    obtain ⟨⟨h1, h2⟩, h⟩ := h
    have hsub := sub_zip
    have e2 : (Str.ofString "strict" != ("strict" : Str)) = false := by decide +kernel
    have q1 : ∀ {A' : Around} {E : Value → Shared → Prop} {Q : Value → Shared → Prop}, Q (.ref hp.objs.size) ⟨(hp.push o1), g, d, tk, os⟩ → wpAny (model prog w) A' (pyIter v1) Q E ⟨hp, g, d, tk, os⟩ :=
      fun q => B1.iter prog w _ _ ⟨hp, g, d, tk, os⟩ _ h1 q
    have q2 : ∀ {A' : Around} {E : Value → Shared → Prop} {Q : Value → Shared → Prop}, Q (.ref (hp.push o1).objs.size) ⟨((hp.push o1).push o2), g, d, tk, os⟩ → wpAny (model prog w) A' (pyIter v2) Q E ⟨(hp.push o1), g, d, tk, os⟩ :=
      fun q => B2.iter prog w _ _ ⟨(hp.push o1), g, d, tk, os⟩ _ (B2.keeps _ _ h2 fun b o' e => Heap.get?_push_of_some _ e) q
    wp_walk using q1, q2
    exact ⟨_, rfl, h⟩
section
variable {prog : Program} {w : World} {A : Around} {E : Value → Shared → Prop} {s : Shared}
theorem zipS_begins {v1 v2 : Value} {o1 o2 : Obj} {H1 H2 : Heap → Prop} {Q : Value → Shared → Prop} (B1 : Begins v1 o1 H1) (B2 : Begins v2 o2 H2) (h1 : H1 s.heap) (h2 : H2 s.heap)
    (h : ∀ h', IsZipS h' (s.heap.objs.size + 4) (s.heap.objs.size + 2) (s.heap.objs.size + 3) .none → IsPair h' (s.heap.objs.size + 2) (.ref s.heap.objs.size) (.ref (s.heap.objs.size + 1)) →
      IsPair h' (s.heap.objs.size + 3) .none .none → h'.get? s.heap.objs.size = some o1 → h'.get? (s.heap.objs.size + 1) = some o2 → h'.objs.size = s.heap.objs.size + 5 →
      (∀ c o, s.heap.get? c = some o → h'.get? c = some o) → Q (.ref (s.heap.objs.size + 4)) { s with heap := h' }) :
    wpAny (model prog w) A (call (.type "zip") [v1, v2] [(Str.ofString "strict", .bool true)]) Q E s := by
  refine callType_newKw F.called_zip (by decide) (typeCall_zipS _ _ _) (newCall_zipS _ _ _) (fun obj => args_zipS obj _ _ _) F.entry_zip_new (meets_zipS B1 B2) ⟨⟨h1, h2⟩, ?_⟩
  have z1 : (s.heap.push o1).objs.size = s.heap.objs.size + 1 := by rw [Heap.size_push]
  have z2 : ((s.heap.push o1).push o2).objs.size = s.heap.objs.size + 2 := by rw [Heap.size_push, z1]
  have zT : (gzT2 s.heap o1 o2).objs.size = s.heap.objs.size + 3 := by rw [Heap.size_push, z2]
  have zO : (gzO2 s.heap o1 o2).objs.size = s.heap.objs.size + 4 := by rw [Heap.size_push, zT]
  have zZ : (szZ s.heap o1 o2).objs.size = s.heap.objs.size + 5 := by rw [Heap.size_push, zO]
  have gZ : (szZ s.heap o1 o2).get? (gzO2 s.heap o1 o2).objs.size = some { cls := .type "zip", data := .fields #[.none, .bool false, .bool true, .ref ((s.heap.push o1).push o2).objs.size, .ref (gzT2 s.heap o1 o2).objs.size] } := Heap.get?_push_size _ rfl
  have gO : (szZ s.heap o1 o2).get? (gzT2 s.heap o1 o2).objs.size = some { cls := .type "tuple", data := .seq #[.none, .none] } := Heap.get?_push_of_some _ (Heap.get?_push_size _ rfl)
  have gT : (szZ s.heap o1 o2).get? ((s.heap.push o1).push o2).objs.size = some { cls := .type "tuple", data := .seq #[.ref s.heap.objs.size, .ref (s.heap.push o1).objs.size] } := Heap.get?_push_of_some _ (Heap.get?_push_of_some _ (Heap.get?_push_size _ rfl))
  have g1 : (szZ s.heap o1 o2).get? s.heap.objs.size = some o1 := Heap.get?_push_of_some _ (Heap.get?_push_of_some _ (Heap.get?_push_of_some _ (Heap.get?_push_of_some _ (Heap.get?_push_size _ B1.free))))
  have g2 : (szZ s.heap o1 o2).get? (s.heap.push o1).objs.size = some o2 := Heap.get?_push_of_some _ (Heap.get?_push_of_some _ (Heap.get?_push_of_some _ (Heap.get?_push_size _ B2.free)))
  rw [zO, zT, z2] at gZ
  rw [zT] at gO
  rw [z2, z1] at gT
  rw [z1] at g2
  show _ ∧ _
  rw [zO]
  exact ⟨⟨_, gZ, rfl⟩, h _ gZ gT gO g1 g2 zZ fun c o e => Heap.get?_push_of_some _ (Heap.get?_push_of_some _ (Heap.get?_push_of_some _ (Heap.get?_push_of_some _ (Heap.get?_push_of_some _ e))))⟩
end
/-! ### the turns -/
def SqK (K : PySem.W.Frag) (H : Hp) (k : Bool) (a : Addr) (xs : List V) : Prop := match k with
  | true => SqT K H a xs
  | false => SqL K H a xs
def KI (h : Heap) (k : Bool) (it l : Addr) (i : Nat) : Prop := match k with
  | true => h.IsTupleIter it l i
  | false => h.IsListIter it l i
def ItS (K : PySem.W.Frag) (k1 k2 : Bool) (a b : Addr) : It :=
  ⟨fun i H => ∃ (xs ys : List V) (x y : V), SqK K H k1 a xs ∧ SqK K H k2 b ys ∧ xs[i]? = some x ∧ ys[i]? = some y,
    fun i H v H' => ∃ T x y, v = .ref T ∧ H T = none ∧ H' = upd H T (.tup [x, y]) ∧ (∀ xs, SqK K H k1 a xs → xs[i]? = some x) ∧ ∀ ys, SqK K H k2 b ys → ys[i]? = some y,
    fun i H => ∃ xs ys : List V, SqK K H k1 a xs ∧ SqK K H k2 b ys ∧ xs.length ≤ i ∧ ys.length ≤ i⟩
theorem KI.get {h : Heap} {k : Bool} {it l : Addr} {i : Nat} (x : KI h k it l i) : ∃ o, h.get? it = some o ∧ ∀ v, o.data ≠ .cell v := by
  cases k with
  | true =>
    obtain ⟨o, e1, _, d1⟩ := x
    exact ⟨o, e1, fun v q => by rw [d1] at q; cases q⟩
  | false =>
    obtain ⟨o, e1, _, d1⟩ := x
    exact ⟨o, e1, fun v q => by rw [d1] at q; cases q⟩
theorem KI.at {h h' : Heap} {k : Bool} {it l : Addr} {i : Nat} (x : KI h k it l i) (f : ∀ o, h.get? it = some o → h'.get? it = some o) : KI h' k it l i := by
  cases k with
  | true => obtain ⟨o, e1, e2⟩ := x; exact ⟨o, f o e1, e2⟩
  | false => obtain ⟨o, e1, e2⟩ := x; exact ⟨o, f o e1, e2⟩
theorem SIt.ki {h : Heap} {k : Bool} {it l : Addr} {i : Nat} {xs : Array Value} (x : SIt h k it l i xs) : KI h k it l i := by
  cases k with
  | true => exact x.1
  | false => exact x.1
section
variable {X : Cx} {pins : List (Addr × Obj)} {σ : L2.St} {H : Hp} {s : Shared}
theorem sqk_its {k : Bool} {a : Addr} {xs : List V} (I : Inv X pins σ H s) (h : SqK X.K H k a xs) : ∃ its, Vals xs its ∧ ∀ {it : Addr} {i : Nat}, KI s.heap k it a i → SIt s.heap k it a i its.toArray := by
  cases k with
  | true =>
    obtain ⟨its, rv, p, _⟩ := I.tuple h
    exact ⟨its, rv, fun x => ⟨x, p⟩⟩
  | false =>
    obtain ⟨its, rv, p, _⟩ := I.list h
    exact ⟨its, rv, fun x => ⟨x, p.isList⟩⟩
theorem sqk_inj {k : Bool} {a : Addr} {xs ys : List V} (I : Inv X pins σ H s) (h : SqK X.K H k a xs) (h' : SqK X.K H k a ys) : xs = ys := by
  cases k with
  | true => exact I.tuple_inj h h'
  | false => exact I.list_inj h h'
end
theorem turn_zipS {P : Program} {w : World} {K : PySem.W.Frag} {elts : List Expr} {kk : Nat} {tpos : Pos} {k1 k2 : Bool} {a b z TI TO i1 i2 : Addr} (D : ZipApart z TI TO i1 i2 a b) :
    Turn P w K (.Tuple elts kk tpos) (ItS K k1 k2 a b) [z, TI, TO, i1, i2] z (fun i h => IsZipS h z TI TO .none ∧ IsPair h TI (.ref i1) (.ref i2) ∧ (∃ x y, IsPair h TO x y) ∧ KI h k1 i1 a i ∧ KI h k2 i2 b i) where
  mem := by simp
  obj := fun i h st c hc => by
    obtain ⟨hz, hTI, ⟨x, y, hTO⟩, h1, h2⟩ := st
    obtain ⟨o1, e1, d1⟩ := h1.get
    obtain ⟨o2, e2, d2⟩ := h2.get
    have e' : c = z ∨ c = TI ∨ c = TO ∨ c = i1 ∨ c = i2 := by simpa using hc
    rcases e' with q | q | q | q | q
    · rw [q]; exact ⟨_, hz, fun v q => nomatch q⟩
    · rw [q]; exact ⟨_, hTI, fun v q => nomatch q⟩
    · rw [q]; exact ⟨_, hTO, fun v q => nomatch q⟩
    · rw [q]; exact ⟨o1, e1, d1⟩
    · rw [q]; exact ⟨o2, e2, d2⟩
  keep := fun i h h' st k => by
    obtain ⟨hz, hTI, ⟨x, y, hTO⟩, h1, h2⟩ := st
    exact ⟨k z (by simp) _ hz, k TI (by simp) _ hTI, ⟨x, y, k TO (by simp) _ hTO⟩, h1.at fun o q => k i1 (by simp) o q, h2.at fun o q => k i2 (by simp) o q⟩
  item := by
    intro X hP hw hK hc i pins s σ H E I hf st hg
    subst hP hw hK
    obtain ⟨hz, hTI, ⟨x0, y0, hTO⟩, h1, h2⟩ := st
    obtain ⟨xs, ys, x, y, hqx, hqy, hx, hy⟩ := hg
    obtain ⟨its, rv, p⟩ := sqk_its I hqx
    obtain ⟨its2, rv2, p2⟩ := sqk_its I hqy
    obtain ⟨u, hu, ru⟩ := rv.get hx
    obtain ⟨u2, hu2, ru2⟩ := rv2.get hy
    have hzl : z < s.heap.objs.size := Heap.lt_size hz
    refine sz_nextItem D hz hTI hTO (p h1) (p2 h2) (x := u) (y := u2) (by simpa using hu) (by simpa using hu2) fun h' z' TO' h1' h2' hT hsz hk => ?_
    refine ⟨_, rfl, sz_go (s := { s with heap := h' }) z' fun h'' z'' sb => ?_⟩
    have hT2 : h''.get? s.heap.objs.size = some { cls := .type "tuple", data := .seq #[u, u2] } := (sb.2 _ (Nat.ne_of_gt hzl)).trans hT
    have new : ObjOk X.prog X.w (upd H s.heap.objs.size (.tup [x, y])) h'' s.heap.objs.size (.tup [x, y]) :=
      ⟨by show 2 ≤ sizeLine; decide, [u, u2], .cons ru (.cons ru2 .nil), ⟨_, hT2, rfl, _, rfl⟩⟩
    have I1 : Inv X pins σ (upd H s.heap.objs.size (.tup [x, y])) { s with heap := h'' } :=
      I.turnedNew (t' := s.toks) (ch := [z, TI, TO, i1, i2]) (fun c o hb q => (sb.2 c (fun q' => hb (by simp [q']))).trans (hk c o (fun q' => hb (by simp [q'])) (fun q' => hb (by simp [q'])) (fun q' => hb (by simp [q'])) (fun q' => hb (by simp [q'])) q)) hf (Nat.le_refl _) new
    refine ⟨.ref s.heap.objs.size, _, I1, rfl, ⟨_, x, y, rfl, I.hok.fresh (Nat.le_refl _), rfl, fun l hl => by rw [sqk_inj I hl hqx]; exact hx, fun l hl => by rw [sqk_inj I hl hqy]; exact hy⟩, ⟨z'', ?_, ⟨u, u2, ?_⟩, ?_, ?_⟩, fun c hcm => ?_⟩
    · exact (sb.2 _ D.TIz).trans (hk _ _ D.TIz D.TITO D.TIi1 D.TIi2 hTI)
    · exact (sb.2 _ D.TOz).trans TO'
    · exact h1'.ki.at fun o q => (sb.2 _ D.i1z).trans q
    · exact h2'.ki.at fun o q => (sb.2 _ D.i2z).trans q
    · have hlt : c < s.heap.objs.size := by
        have e' : c = z ∨ c = TI ∨ c = TO ∨ c = i1 ∨ c = i2 := by simpa using hcm
        rcases e' with q | q | q | q | q
        · rw [q]; exact hzl
        · rw [q]; exact Heap.lt_size hTI
        · rw [q]; exact Heap.lt_size hTO
        · rw [q]; obtain ⟨_, e1, _⟩ := h1.get; exact Heap.lt_size e1
        · rw [q]; obtain ⟨_, e2, _⟩ := h2.get; exact Heap.lt_size e2
      rw [upd_ne (Nat.ne_of_lt hlt)]
      exact (hf c hcm).1
  done := by
    intro X hP hw hK hc i pins s σ H E I hf st hg
    subst hP hw hK
    obtain ⟨hz, hTI, ⟨x0, y0, hTO⟩, h1, h2⟩ := st
    obtain ⟨xs, ys, hqx, hqy, he1, he2⟩ := hg
    obtain ⟨its, rv, p⟩ := sqk_its I hqx
    obtain ⟨its2, rv2, p2⟩ := sqk_its I hqy
    have l1 := rv.length
    have l2 := rv2.length
    exact sz_nextEnd (I.ok.hd hc) D hz hTI hTO (p h1) (p2 h2) (by simp; omega) (by simp; omega) fun h' hk => ⟨rfl, I.turnedL (t' := s.toks) (ch := [z, TI, TO, i1, i2]) (fun c o hb q => hk c o (fun q' => hb (by simp [q'])) (fun q' => hb (by simp [q'])) (fun q' => hb (by simp [q'])) (fun q' => hb (by simp [q'])) q) hf⟩
  self := fun A i s Q E st h => sz_iter st.1 h
theorem callWith_typeKw {M : Model} {A : Around} {E : Value → Shared → Prop} {s : Shared} {pos : Pos} {T : String} {args : List (Bool × Sem Value)} {keywords : List (Option Str × Sem Value)} {Q : Value → Shared → Prop}
    (hplain : args.any (·.1) = false) (hkw : keywords.any (·.1.isNone) = false)
    (h : wpAny M A (evalArgs (.type T) true args keywords) (fun a s₁ => wpAny M A (call (.type T) a.pos a.kw) Q E s₁) E s) : wpAny M A (callWith pos (.type T) [] args keywords) Q E s := by
  unfold callWith
  refine wpAny_bind (wpAny_holding (wpAny_mono h (fun a s₁ h₁ => wpAny_bind (wpAny_standAt ?_)) fun _ _ x => x))
  simp only [hplain, hkw, Bool.or_false]
  refine wpAny_bind (wpAny_pure ?_)
  exact wpAny_bind (wpAny_mono h₁ (fun r s₂ hr => wpAny_bind (wpAny_holding (wpAny_point (wpAny_pure hr)))) fun _ _ x => x)
def iZipS (K : PySem.W.Frag) (ta : TA) : TI := fun σ H R => ta σ H fun vs H1 => ∃ (k1 k2 : Bool) (a b : Addr) (xs ys : List V), vs = [.ref a, .ref b] ∧ SqK K H1 k1 a xs ∧ SqK K H1 k2 b ys ∧ R (ItS K k1 k2 a b) H1
theorem pi_zipS {X : Cx} {e e2 e3 : Expr} {ta : TA} {p pos tpos kp : Pos} {elts : List Expr} {kk : Nat} (hg : Gl X "zip") (hm : X.mg "zip" = none) (ha : PA X [e, e2] ta) (h3 : PE X e3 (tC (.bl true)))
    (hs : starEach [e, e2] X.env = (false, eval e X.env) :: starEach [e2] X.env := by rfl) (hpl : (backTo pos (starEach [e2] X.env)).any (·.1) = false := by rfl) :
    PI X (.Tuple elts kk tpos) (.Call (.Name "zip" p) [e, e2] [⟨some "strict", e3, kp⟩] pos) (iZipS X.K ta) := by
  refine ⟨fun pins s σ H R I h => ?_⟩
  refine wpAny_Call_Name_kw (ld_blt I hg hm PyProof.Rows.boot_zip ?_)
  have hpl2 : (backTo pos (starEach [e, e2] X.env)).any (·.1) = false := by
    rw [hs]
    show (false || (backTo pos (starEach [e2] X.env)).any (·.1)) = false
    rw [hpl]
    rfl
  refine callWith_typeKw hpl2 rfl ?_
  have hx := ha.run pos pins s σ H _ I h
  rw [hs] at hx ⊢
  refine evalArgs_kwB rfl (thn hx fun us s1 ⟨vs, H1, I1, r1, q1⟩ => ?_)
  refine kws_cons (thn (h3.run pins s1 σ H1 (fun v H2 => v = .bl true ∧ H2 = H1) I1 ⟨rfl, rfl⟩) fun u3 s2 q3 => kws_nil ?_)
  obtain ⟨v3, H2, I2, r3, ev, eh⟩ := q3
  subst ev
  subst eh
  cases (show u3 = Value.bool true from r3)
  obtain ⟨k1, k2, a, b, xs, ys, ex, hqx, hqy, q⟩ := q1
  subst ex
  cases r1 with
  | cons r rr =>
    cases rr with
    | cons r' rr =>
      cases rr
      cases r
      cases r'
      have fresh5 : ∀ c, c ∈ [s2.heap.objs.size + 4, s2.heap.objs.size + 2, s2.heap.objs.size + 3, s2.heap.objs.size, s2.heap.objs.size + 1] → FpOk X pins H2 c := fun c hcm => by
        have e' : c = s2.heap.objs.size + 4 ∨ c = s2.heap.objs.size + 2 ∨ c = s2.heap.objs.size + 3 ∨ c = s2.heap.objs.size ∨ c = s2.heap.objs.size + 1 := by simpa using hcm
        have hle : s2.heap.objs.size ≤ c := by omega
        exact I2.fpOk hle (I2.hok.fresh hle)
      cases k1 with
      | true =>
        cases k2 with
        | true =>
          obtain ⟨i1, v1, p1, _⟩ := I2.tuple hqx
          obtain ⟨o1, ho1, _⟩ := id p1
          have l1 := Heap.lt_size ho1
          have B1 := begins_tuple a i1.toArray
          have w1 : s2.heap.IsTuple a i1.toArray := p1
          obtain ⟨i2, v2, p2, _⟩ := I2.tuple hqy
          obtain ⟨o2, ho2, _⟩ := id p2
          have l2 := Heap.lt_size ho2
          have B2 := begins_tuple b i2.toArray
          have w2 : s2.heap.IsTuple b i2.toArray := p2
          refine zipS_begins B1 B2 w1 w2 fun h' hz hTI hTO g1 g2 hsz hk => sz_iter hz ?_
          exact ⟨s2.heap.objs.size + 4, [s2.heap.objs.size + 4, s2.heap.objs.size + 2, s2.heap.objs.size + 3, s2.heap.objs.size, s2.heap.objs.size + 1], _, _, H2, rfl, I2.kept (t' := s2.toks) hk, turn_zipS (k1 := true) (k2 := true) (PySem.W.ktu_apart s2.heap.objs.size a b l1 l2), ⟨hz, hTI, ⟨_, _, hTO⟩, (show h'.IsTupleIter s2.heap.objs.size a 0 from ⟨_, g1, rfl, rfl⟩), (show h'.IsTupleIter (s2.heap.objs.size + 1) b 0 from ⟨_, g2, rfl, rfl⟩)⟩, fresh5, q⟩
        | false =>
          obtain ⟨i1, v1, p1, _⟩ := I2.tuple hqx
          obtain ⟨o1, ho1, _⟩ := id p1
          have l1 := Heap.lt_size ho1
          have B1 := begins_tuple a i1.toArray
          have w1 : s2.heap.IsTuple a i1.toArray := p1
          obtain ⟨i2, v2, p2, _⟩ := I2.list hqy
          have l2 := p2.lt
          have B2 := begins_list b i2.toArray
          have w2 := p2.isList
          refine zipS_begins B1 B2 w1 w2 fun h' hz hTI hTO g1 g2 hsz hk => sz_iter hz ?_
          exact ⟨s2.heap.objs.size + 4, [s2.heap.objs.size + 4, s2.heap.objs.size + 2, s2.heap.objs.size + 3, s2.heap.objs.size, s2.heap.objs.size + 1], _, _, H2, rfl, I2.kept (t' := s2.toks) hk, turn_zipS (k1 := true) (k2 := false) (PySem.W.ktu_apart s2.heap.objs.size a b l1 l2), ⟨hz, hTI, ⟨_, _, hTO⟩, (show h'.IsTupleIter s2.heap.objs.size a 0 from ⟨_, g1, rfl, rfl⟩), (show h'.IsListIter (s2.heap.objs.size + 1) b 0 from ⟨_, g2, rfl, rfl⟩)⟩, fresh5, q⟩
      | false =>
        cases k2 with
        | true =>
          obtain ⟨i1, v1, p1, _⟩ := I2.list hqx
          have l1 := p1.lt
          have B1 := begins_list a i1.toArray
          have w1 := p1.isList
          obtain ⟨i2, v2, p2, _⟩ := I2.tuple hqy
          obtain ⟨o2, ho2, _⟩ := id p2
          have l2 := Heap.lt_size ho2
          have B2 := begins_tuple b i2.toArray
          have w2 : s2.heap.IsTuple b i2.toArray := p2
          refine zipS_begins B1 B2 w1 w2 fun h' hz hTI hTO g1 g2 hsz hk => sz_iter hz ?_
          exact ⟨s2.heap.objs.size + 4, [s2.heap.objs.size + 4, s2.heap.objs.size + 2, s2.heap.objs.size + 3, s2.heap.objs.size, s2.heap.objs.size + 1], _, _, H2, rfl, I2.kept (t' := s2.toks) hk, turn_zipS (k1 := false) (k2 := true) (PySem.W.ktu_apart s2.heap.objs.size a b l1 l2), ⟨hz, hTI, ⟨_, _, hTO⟩, (show h'.IsListIter s2.heap.objs.size a 0 from ⟨_, g1, rfl, rfl⟩), (show h'.IsTupleIter (s2.heap.objs.size + 1) b 0 from ⟨_, g2, rfl, rfl⟩)⟩, fresh5, q⟩
        | false =>
          obtain ⟨i1, v1, p1, _⟩ := I2.list hqx
          have l1 := p1.lt
          have B1 := begins_list a i1.toArray
          have w1 := p1.isList
          obtain ⟨i2, v2, p2, _⟩ := I2.list hqy
          have l2 := p2.lt
          have B2 := begins_list b i2.toArray
          have w2 := p2.isList
          refine zipS_begins B1 B2 w1 w2 fun h' hz hTI hTO g1 g2 hsz hk => sz_iter hz ?_
          exact ⟨s2.heap.objs.size + 4, [s2.heap.objs.size + 4, s2.heap.objs.size + 2, s2.heap.objs.size + 3, s2.heap.objs.size, s2.heap.objs.size + 1], _, _, H2, rfl, I2.kept (t' := s2.toks) hk, turn_zipS (k1 := false) (k2 := false) (PySem.W.ktu_apart s2.heap.objs.size a b l1 l2), ⟨hz, hTI, ⟨_, _, hTO⟩, (show h'.IsListIter s2.heap.objs.size a 0 from ⟨_, g1, rfl, rfl⟩), (show h'.IsListIter (s2.heap.objs.size + 1) b 0 from ⟨_, g2, rfl, rfl⟩)⟩, fresh5, q⟩
/-- a walk over a strict zip -/
theorem walk_zipS {K : PySem.W.Frag} {k1 k2 : Bool} {a b : Addr} {xs ys : List V} (hl : xs.length = ys.length) : Walk (ItS K k1 k2 a b) xs.length (fun H => SqK K H k1 a xs ∧ SqK K H k2 b ys) (YPair (fun i => xs[i]?) (fun i => ys[i]?)) := by
  refine ⟨fun i _ hi q => ⟨xs, ys, xs[i], ys[i], q.1, q.2, by simp [hi], by simp [← hl, hi]⟩, fun _ q => ⟨xs, ys, q.1, q.2, Nat.le_refl _, by omega⟩, fun i H v H' _ q y => ?_⟩
  obtain ⟨T, x, y, h1, h2, h3, h4, h5⟩ := y
  exact ⟨T, x, y, h1, h2, h3, h4 xs q.1, h5 ys q.2⟩
end Bk
set_option Elab.async false
set_option linter.all false
set_option maxRecDepth 100000
set_option maxHeartbeats 4000000
/-! Bk21: trees by rows. -/
namespace Bk
open PySem PySem.Spec PyProof.Rows L2
abbrev Tr := List (Str × List Int)
def rowD (r : Str × List Int) : D := .tup [.str r.1, .tup (r.2.map D.int)]
def treeD (t : Tr) : D := .tup (t.map rowD)
def mkOf (w : Wd) (s : Str) : Option (Nat × Mk) := (tabFrom 0 w).find? fun e => decide (e.2.1 = s)
def dueOf (w : Wd) (e : Nat × Mk) : List Int := e.2.2.map fun s => kno w s
def standsAt (ks ns due : List Int) : Bool := decide (ns.length = due.length) && ((ns.all fun n => decide (0 ≤ n ∧ n < (ks.length : Nat))) && (ns.zip due).all fun p => decide (ks[p.1.toNat]? = some p.2))
def stands (w : Wd) (ks : List Int) (r : Str × List Int) : Bool := match mkOf w r.1 with
  | none => false
  | some e => standsAt ks r.2 (dueOf w e)
def kindAt (w : Wd) (s : Str) : Int := match mkOf w s with
  | none => 0
  | some e => (e.1 : Nat)
theorem nodup_sub2 {α : Type} [DecidableEq α] : ∀ (l m : List α), l.Nodup → (∀ x ∈ l, x ∈ m) → l.length ≤ m.length
  | [], _, _, _ => Nat.zero_le _
  | x :: l, m, h, hs => by
    have hn := List.nodup_cons.1 h
    have hx := hs x List.mem_cons_self
    have z := nodup_sub2 l (m.erase x) hn.2 fun y hy => (List.mem_erase_of_ne (fun e => hn.1 (by rw [← e]; exact hy))).2 (hs y (List.mem_cons_of_mem _ hy))
    rw [List.length_erase_of_mem hx] at z
    have : 0 < m.length := List.length_pos_of_mem hx
    rw [List.length_cons]
    omega
theorem TabOk.none {w : Wd} {H : Hp} {kvs : List (L2.Key × V)} {L : List (Nat × Mk)} {s : Str} (h : TabOk w H kvs L) (hn : (L.map fun e => e.2.1).Nodup) (hs : s ∉ L.map fun e => e.2.1) : valV kvs (.inr s) = none := by
  refine Classical.byContradiction fun z => ?_
  have key : ∀ t v, valV kvs (.inr t) = some v → (Sum.inr t : L2.Key) ∈ kvs.map Prod.fst := fun t v e => by
    unfold valV at e
    rw [Option.map_eq_some_iff] at e
    obtain ⟨kv, e1, _⟩ := e
    have e2 := List.find?_some e1
    have e3 := List.mem_of_find?_eq_some e1
    exact List.mem_map.2 ⟨kv, e3, of_decide_eq_true e2⟩
  have hz : ∃ v, valV kvs (.inr s) = some v := by
    cases e : valV kvs (.inr s) with
    | none => exact absurd e z
    | some v => exact ⟨v, rfl⟩
  obtain ⟨v, hv⟩ := hz
  have a := nodup_sub2 ((s :: L.map fun e => e.2.1).map Sum.inr) (kvs.map Prod.fst) (by
    have nd : (s :: L.map fun e => e.2.1).Nodup := List.nodup_cons.2 ⟨hs, hn⟩
    exact List.Pairwise.map (R := (· ≠ ·)) (S := (· ≠ ·)) Sum.inr (fun x y hxy e => hxy (Sum.inr.inj e)) nd) fun x hx => by
      obtain ⟨t, ht, rfl⟩ := List.mem_map.1 hx
      rcases List.mem_cons.1 ht with rfl | ht
      · exact key _ _ hv
      · obtain ⟨e, he, rfl⟩ := List.mem_map.1 ht
        obtain ⟨p, t, q, _⟩ := h.2 e he
        exact key _ _ q
  have b := h.1
  simp only [List.length_map, List.length_cons] at a
  omega
theorem mkOf_some {w : Wd} {s : Str} {e : Nat × Mk} (h : mkOf w s = some e) : e ∈ tabFrom 0 w ∧ e.2.1 = s := ⟨List.mem_of_find?_eq_some h, of_decide_eq_true (List.find?_some (p := fun e : Nat × Mk => decide (e.2.1 = s)) h)⟩
theorem dueOf_vals (w : Wd) (e : Nat × Mk) : (e.2.2.map fun s => V.int (kno w s)) = (dueOf w e).map V.int := map_kno w e.2.2
/-- a tree within bounds -/
structure TrB (t : Tr) : Prop where
  many : t.length ≤ 500
  row : ∀ r ∈ t, TextOk r.1 ∧ r.2.length ≤ 500
/-! told and due -/
/-- what both tell: a tuple of a word, or of a word and a number -/
def ToldT (H : Hp) (o : Option Nat) (p : Addr) : Prop := match o with
  | none => H p = some (.tup [.str "let by"])
  | some n => H p = some (.tup [.str "refused", .int (n : Nat)])
theorem ToldT.ex {H H' : Hp} {o : Option Nat} {p : Addr} (e : Ex H H') (h : ToldT H o p) : ToldT H' o p := by
  cases o with
  | none => exact e _ _ h
  | some n => exact e _ _ h
theorem g_eqNil {K : PySem.W.Frag} {H : Hp} {Q : VK} {a b : Addr} {xs : List V} (ha : H a = some (.lst xs)) (hb : H b = some (.lst [])) (h : ∀ x ∈ xs, DpOk K H x 60) (q : Q (.bl xs.isEmpty) H) : rEqD K (.ref a) (.ref b) H Q := by
  obtain ⟨ds, h1, h2, h3, h4⟩ := dpok_all h
  refine ⟨.list ds, .list [], .lst (sqL ha) h1, .lst (sqL hb) .nil, ?_, rfl, ?_⟩
  · show (PyData.canLayAll0 ds && decide (PyData.depthAll ds + 1 ≤ 64)) = true
    rw [h2, decide_eq_true (by omega)]
    rfl
  · have e : PyData.eqv (.list ds) (.list []) = xs.isEmpty := by
      show PyData.eqvAll ds [] = xs.isEmpty
      cases ds with
      | nil =>
        have : xs = [] := List.eq_nil_of_length_eq_zero h4.symm
        subst this
        rfl
      | cons d ds =>
        cases xs with
        | nil => cases h4
        | cons x xs => rfl
    rw [e]
    exact q
theorem dpok_int {K : PySem.W.Frag} {H : Hp} {n : Int} {k : Nat} : DpOk K H (.int n) k := ⟨.int n, .int n, rfl, Nat.zero_le _⟩
end Bk
set_option Elab.async false
set_option linter.all false
set_option maxRecDepth 100000
set_option maxHeartbeats 4000000
/-! Bk22: trees drawn. -/
namespace Bk
open PySem PySem.Spec PyProof.Rows L2
def goTr (w : Wd) : List Int → Tr → Bool
  | _, [] => true
  | ks, r :: t => stands w ks r && goTr w (ks ++ [kindAt w r.1]) t
def kindsT (w : Wd) (t : Tr) : List Int := t.map fun r => kindAt w r.1
theorem goTr_app {w : Wd} {r : Str × List Int} : ∀ {t : Tr} {ks : List Int}, goTr w ks (t ++ [r]) = (goTr w ks t && stands w (ks ++ kindsT w t) r)
  | [], ks => by
    show (stands w ks r && true) = (true && stands w (ks ++ []) r)
    rw [List.append_nil, Bool.and_true, Bool.true_and]
  | q :: t, ks => by
    show (stands w ks q && goTr w (ks ++ [kindAt w q.1]) (t ++ [r])) = ((stands w ks q && goTr w (ks ++ [kindAt w q.1]) t) && stands w (ks ++ kindsT w (q :: t)) r)
    rw [goTr_app, Bool.and_assoc]
    congr 3
    show _ = ks ++ (kindAt w q.1 :: kindsT w t)
    rw [List.append_assoc]
    rfl
theorem row_hard (r : Str × List Int) : (rowD r).hard = true := by
  show D.hards [.str r.1, .tup (r.2.map D.int)] = true
  have := ints_hard r.2
  simp only [D.hards, D.hard, this, Bool.and_self]
theorem rows_hard : ∀ t : Tr, D.hards (t.map rowD) = true
  | [] => rfl
  | r :: t => by
    show (D.hard (rowD r) && D.hards (t.map rowD)) = true
    rw [row_hard, rows_hard t]
    rfl
theorem tree_hard (t : Tr) : (treeD t).hard = true := by
  show D.hards (t.map rowD) = true
  exact rows_hard t
structure TreeSt (p R Kd Sz : Addr) (w : Wd) (H H1 : Hp) (t : Tr) (rvs : List V) (szs : List Int) : Prop where
  bx0 : Box H p
  bt : But p H H1
  bx : Box H1 p
  hR : H R = none
  hK : H Kd = none
  hS : H Sz = none
  RK : R ≠ Kd
  RS : R ≠ Sz
  KS : Kd ≠ Sz
  atR : H1 R = some (.lst rvs)
  atK : H1 Kd = some (.lst ((kindsT w t).map V.int))
  atS : H1 Sz = some (.lst (szs.map V.int))
  reps : Reps H1 (t.map rowD) rvs
  len : szs.length = t.length
  go : goTr w [] t = true
  row : ∀ r ∈ t, TextOk r.1 ∧ r.2.length ≤ 2
section
variable {p R Kd Sz : Addr} {w : Wd} {H H1 H2 : Hp} {t : Tr} {rvs : List V} {szs : List Int}
theorem TreeSt.np (s : TreeSt p R Kd Sz w H H1 t rvs szs) {a : Addr} (ha : H a = none) : a ≠ p := fun e => by
  obtain ⟨_, _, _, q⟩ := s.bx0
  rw [← e, ha] at q
  cases q
theorem TreeSt.free (s : TreeSt p R Kd Sz w H H1 t rvs szs) {a : Addr} (ha : H1 a = none) : H a = none := by
  cases e : H a with
  | none => rfl
  | some o =>
    by_cases z : a = p
    · subst z
      obtain ⟨_, _, _, q⟩ := s.bx
      rw [ha] at q
      cases q
    · rw [s.bt _ _ z e] at ha
      cases ha
theorem TreeSt.but (s : TreeSt p R Kd Sz w H H1 t rvs szs) (b : But p H1 H2) (hb : Box H2 p) : TreeSt p R Kd Sz w H H2 t rvs szs :=
  { s with bt := s.bt.trans b, bx := hb, atR := b _ _ (s.np s.hR) s.atR, atK := b _ _ (s.np s.hK) s.atK, atS := b _ _ (s.np s.hS) s.atS, reps := s.reps.tk (s.bx.tk b) (rows_hard t) }
theorem TreeSt.ex (s : TreeSt p R Kd Sz w H H1 t rvs szs) (e : Ex H1 H2) : TreeSt p R Kd Sz w H H2 t rvs szs := s.but (e.but p) (s.bx.ex e)
theorem TreeSt.app (s : TreeSt p R Kd Sz w H H1 t rvs szs) {r : Str × List Int} {v : V} {m : Int} (rv : Rep H1 (rowD r) v) (hs : stands w (kindsT w t) r = true) (ht : TextOk r.1) (hl : r.2.length ≤ 2) :
    TreeSt p R Kd Sz w H (upd (upd (upd H1 R (.lst (rvs ++ [v]))) Kd (.lst ((kindsT w t).map V.int ++ [.int (kindAt w r.1)]))) Sz (.lst (szs.map V.int ++ [.int m]))) (t ++ [r]) (rvs ++ [v]) (szs ++ [m]) := by
  have k1 : Tk H1 (upd H1 R (.lst (rvs ++ [v]))) := ((But.refl R H1).upd).tkl s.atR
  have aK : (upd H1 R (.lst (rvs ++ [v]))) Kd = some (.lst ((kindsT w t).map V.int)) := by rw [upd_ne (Ne.symm s.RK)]; exact s.atK
  have k2 : Tk _ (upd (upd H1 R (.lst (rvs ++ [v]))) Kd (.lst ((kindsT w t).map V.int ++ [.int (kindAt w r.1)]))) := ((But.refl Kd _).upd).tkl aK
  have aS : (upd (upd H1 R (.lst (rvs ++ [v]))) Kd (.lst ((kindsT w t).map V.int ++ [.int (kindAt w r.1)]))) Sz = some (.lst (szs.map V.int)) := by rw [upd_ne (Ne.symm s.KS), upd_ne (Ne.symm s.RS)]; exact s.atS
  have k3 : Tk _ (upd (upd (upd H1 R (.lst (rvs ++ [v]))) Kd (.lst ((kindsT w t).map V.int ++ [.int (kindAt w r.1)]))) Sz (.lst (szs.map V.int ++ [.int m]))) := ((But.refl Sz _).upd).tkl aS
  have k := k1.trans (k2.trans k3)
  refine ⟨s.bx0, ((s.bt.at_new s.hR).at_new s.hK).at_new s.hS, ((s.bx.at_upd (s.np s.hR)).at_upd (s.np s.hK)).at_upd (s.np s.hS), s.hR, s.hK, s.hS, s.RK, s.RS, s.KS, by rw [upd_ne s.RS, upd_ne s.RK, upd_same], ?_, by rw [upd_same, List.map_append]; rfl, ?_, by rw [List.length_append, List.length_append, s.len]; rfl, by rw [goTr_app, s.go, List.nil_append, hs]; rfl, fun q hq => ?_⟩
  · rw [upd_ne s.KS, upd_same]
    unfold kindsT
    rw [List.map_append, List.map_append]
    rfl
  · rw [List.map_append]
    exact (s.reps.tk k (rows_hard t)).append (by simp only [List.map, Reps]; exact ⟨v, [], rfl, rv.tk k (row_hard r), rfl⟩)
  · rcases List.mem_append.1 hq with hq | hq
    · exact s.row q hq
    · rw [List.mem_singleton.1 hq]
      exact ⟨ht, hl⟩
end
/-- a maker whose parts' kinds are there -/
def FitAt (w : Wd) (H : Hp) (ks : List Int) (x : V) : Prop := ∃ e, e ∈ tabFrom 0 w ∧ DueAt w H e x ∧ ∀ d ∈ dueOf w e, d ∈ ks
theorem FitAt.tk {w : Wd} {H H' : Hp} {ks : List Int} {x : V} (t : Tk H H') (h : FitAt w H ks x) : FitAt w H' ks x := by
  obtain ⟨e, a, b, c⟩ := h
  exact ⟨e, a, b.tk t, c⟩
/-! ### a tree spoilt -/
structure TrN (k : Nat) (t : Tr) : Prop where
  many : t.length ≤ 200 + k
  row : ∀ r ∈ t, TextOk r.1 ∧ r.2.length ≤ 2 + k
theorem TrN.bnd {k : Nat} {t : Tr} (h : TrN k t) (hk : k ≤ 100) : TrB t := ⟨by have := h.many; omega, fun r hr => by
  obtain ⟨a, b⟩ := h.row r hr
  exact ⟨a, by omega⟩⟩
structure RwSt (p R : Addr) (n m : Nat) (c : Addr → Prop) (H H1 : Hp) (rows : List V) : Prop where
  bx0 : Box H p
  bt : But p H H1
  bx : Box H1 p
  at_ : H1 R = some (.lst rows)
  hR : H R = none
  cR : ¬ c R
  fr : ∀ a, c a → H a = none
  ty : ∀ a, c a → ∃ (s : Str) (t : Addr) (ns : List Int), H1 a = some (.lst [.str s, .ref t]) ∧ TextOk s ∧ H1 t = some (.tup (ns.map V.int)) ∧ ns.length ≤ n
  rw : rows.length ≤ m ∧ ∀ x ∈ rows, ∃ b, x = .ref b ∧ c b
section
variable {p R : Addr} {n m : Nat} {c : Addr → Prop} {H H1 H2 : Hp} {rows : List V}
theorem RwSt.np (s : RwSt p R n m c H H1 rows) {a : Addr} (ha : H a = none) : a ≠ p := fun e => by
  obtain ⟨_, _, _, q⟩ := s.bx0
  rw [← e, ha] at q
  cases q
theorem RwSt.free (s : RwSt p R n m c H H1 rows) {a : Addr} (ha : H1 a = none) : H a = none := by
  cases e : H a with
  | none => rfl
  | some o =>
    by_cases z : a = p
    · subst z
      obtain ⟨_, _, _, q⟩ := s.bx
      rw [ha] at q
      cases q
    · rw [s.bt _ _ z e] at ha
      cases ha
theorem RwSt.but (s : RwSt p R n m c H H1 rows) (b : But p H1 H2) (hb : Box H2 p) : RwSt p R n m c H H2 rows :=
  ⟨s.bx0, s.bt.trans b, hb, b _ _ (s.np s.hR) s.at_, s.hR, s.cR, s.fr, fun a ha => by
    obtain ⟨x, t, ns, h1, h2, h3, h4⟩ := s.ty a ha
    exact ⟨x, t, ns, b _ _ (s.np (s.fr a ha)) h1, h2, s.bx.tk b _ _ h3, h4⟩, s.rw⟩
theorem RwSt.ex (s : RwSt p R n m c H H1 rows) (e : Ex H1 H2) : RwSt p R n m c H H2 rows := s.but (e.but p) (s.bx.ex e)
theorem RwSt.le (s : RwSt p R n m c H H1 rows) {n' m' : Nat} (h1 : n ≤ n') (h2 : m ≤ m') : RwSt p R n' m' c H H1 rows :=
  ⟨s.bx0, s.bt, s.bx, s.at_, s.hR, s.cR, s.fr, fun a ha => by
    obtain ⟨x, t, ns, h3, h4, h5, h6⟩ := s.ty a ha
    exact ⟨x, t, ns, h3, h4, h5, by omega⟩, Nat.le_trans s.rw.1 h2, s.rw.2⟩
theorem RwSt.set (s : RwSt p R n m c H H1 rows) {a t : Addr} {x : Str} {ns : List Int} (ha : c a) (hx : TextOk x) (ht : H1 t = some (.tup (ns.map V.int))) (hl : ns.length ≤ n) : RwSt p R n m c H (upd H1 a (.lst [.str x, .ref t])) rows := by
  obtain ⟨x0, t0, ns0, q, _⟩ := s.ty a ha
  have k : Tk H1 (upd H1 a (.lst [.str x, .ref t])) := ((But.refl a H1).upd).tkl q
  refine ⟨s.bx0, s.bt.at_new (s.fr a ha), s.bx.at_upd (s.np (s.fr a ha)), by rw [upd_ne (fun e => s.cR (by rw [e]; exact ha))]; exact s.at_, s.hR, s.cR, s.fr, fun b hb => ?_, s.rw⟩
  by_cases e : b = a
  · subst e
    exact ⟨x, t, ns, upd_same, hx, k _ _ ht, hl⟩
  · obtain ⟨y, u, ms, h1, h2, h3, h4⟩ := s.ty b hb
    exact ⟨y, u, ms, by rw [upd_ne e]; exact h1, h2, k _ _ h3, h4⟩
theorem RwSt.put (s : RwSt p R n m c H H1 rows) {m' : Nat} {rows' : List V} (h1 : rows'.length ≤ m') (h2 : ∀ x ∈ rows', ∃ b, x = .ref b ∧ c b) : RwSt p R n m' c H (upd H1 R (.lst rows')) rows' := by
  have k : Tk H1 (upd H1 R (.lst rows')) := ((But.refl R H1).upd).tkl s.at_
  exact ⟨s.bx0, s.bt.at_new s.hR, s.bx.at_upd (s.np s.hR), upd_same, s.hR, s.cR, s.fr, fun b hb => by
    obtain ⟨y, u, ms, h3, h4, h5, h6⟩ := s.ty b hb
    exact ⟨y, u, ms, by rw [upd_ne (fun e => s.cR (by rw [← e]; exact hb))]; exact h3, h4, k _ _ h5, h6⟩, h1, h2⟩
end
end Bk
set_option Elab.async false
set_option linter.all false
set_option maxRecDepth 100000
set_option maxHeartbeats 4000000
/-! Bk23: woods as texts. -/
namespace Bk
open PySem PySem.Spec PyProof.Rows L2
theorem spl_one (s : Nat) : ∀ (l acc : List Nat), s ∉ acc → TL.spl [s] 0 acc l ≠ [] ∧ (TL.spl [s] 0 acc l).length ≤ l.length + 1 ∧ ∀ p ∈ TL.spl [s] 0 acc l, s ∉ p ∧ p.length ≤ acc.length + l.length ∧ ∀ c ∈ p, c ∈ acc ∨ c ∈ l
  | [], acc, hs => by
    rw [TL.spl_nil]
    exact ⟨List.cons_ne_nil _ _, Nat.le_refl _, fun p hp => by rw [List.mem_singleton.1 hp]; exact ⟨hs, Nat.le_refl _, fun c hc => .inl hc⟩⟩
  | c :: l, acc, hs => by
    by_cases h : TL.pre [s] (c :: l) = true
    · rw [TL.spl_hit h]
      obtain ⟨a, b, d⟩ := spl_one s l [] (fun z => nomatch z)
      refine ⟨List.cons_ne_nil _ _, by simp only [List.length_cons]; show (TL.spl [s] 0 [] l).length + 1 ≤ _; omega, fun p hp => ?_⟩
      rcases List.mem_cons.1 hp with rfl | hp
      · exact ⟨hs, by omega, fun c hc => .inl hc⟩
      · obtain ⟨d1, d2, d3⟩ := d p hp
        refine ⟨d1, by simp only [List.length_cons, List.length_nil] at d2 ⊢; omega, fun x hx => ?_⟩
        rcases d3 x hx with z | z
        · cases z
        · exact .inr (List.mem_cons_of_mem _ z)
    · have h' : TL.pre [s] (c :: l) = false := by simpa using h
      rw [TL.spl_miss h']
      have hc : s ≠ c := fun e => by
        subst e
        apply h
        show (List.isPrefixOf [s] (s :: l)) = true
        simp
      obtain ⟨a, b, d⟩ := spl_one s l (acc ++ [c]) (fun z => by
        rcases List.mem_append.1 z with z | z
        · exact hs z
        · exact hc (List.mem_singleton.1 z))
      refine ⟨a, by simp only [List.length_cons]; omega, fun p hp => ?_⟩
      obtain ⟨d1, d2, d3⟩ := d p hp
      refine ⟨d1, by rw [List.length_append] at d2; simp only [List.length_cons, List.length_nil] at d2 ⊢; omega, fun x hx => ?_⟩
      rcases d3 x hx with z | z
      · rcases List.mem_append.1 z with z | z
        · exact .inl z
        · rw [List.mem_singleton.1 z]
          exact .inr List.mem_cons_self
      · exact .inr (List.mem_cons_of_mem _ z)
theorem split_ok {x y : Str} {s : Nat} (hy : y = ⟨#[s]⟩) (hs : s < 256) : Txt.split x y ≠ [] ∧ (Txt.split x y).length ≤ x.length + 1 ∧ ∀ p ∈ Txt.split x y, s ∉ p.cps.toList ∧ p.length ≤ x.length ∧ ∀ c ∈ p.cps.toList, c ∈ x.cps.toList := by
  have e : TL.tl y = [s] := by subst hy; rfl
  have z := TL.split_spl x y (by rw [e]; exact List.cons_ne_nil _ _) (TL.kind_ok (by subst hy; simp [hs]))
  rw [e] at z
  obtain ⟨a, b, d⟩ := spl_one s (TL.tl x) [] (fun z => nomatch z)
  rw [← z] at a b d
  refine ⟨fun w => a (by rw [w]; rfl), by rw [List.length_map] at b; exact b, fun p hp => ?_⟩
  obtain ⟨d1, d2, d3⟩ := d (TL.tl p) (List.mem_map.2 ⟨p, hp, rfl⟩)
  refine ⟨d1, by simp only [List.length_nil, Nat.zero_add] at d2; exact d2, fun c hc => ?_⟩
  rcases d3 c hc with w | w
  · cases w
  · exact w
/-! ### what a text's rows write -/
/-- the kinds as they are read: a list of tuples, a list of makers in each -/
structure KdAt (H : Hp) (Kl : Addr) (ras : List Addr) (acc : Wd) : Prop where
  kl : ∃ vs, H Kl = some (.lst vs) ∧ vs.length = acc.length ∧ ∀ (i : Nat) (k : Str × List Mk) (m : Addr), acc[i]? = some k → ras[i]? = some m → ∃ a, vs[i]? = some (.ref a) ∧ H a = some (.tup [.str k.1, .ref m])
  rows : Rows H ras (acc.map Prod.snd)
  ne : Kl ∉ ras
section
variable {H H' : Hp} {Kl : Addr} {ras : List Addr} {acc : Wd}
theorem KdAt.ex (h : KdAt H Kl ras acc) (e : Ex H H') : KdAt H' Kl ras acc := by
  obtain ⟨vs, a, b, c⟩ := h.kl
  refine ⟨⟨vs, e _ _ a, b, fun i k m hk hm => ?_⟩, h.rows.keep e.tk fun a _ us q => e _ _ q, h.ne⟩
  obtain ⟨x, d1, d2⟩ := c i k m hk hm
  exact ⟨x, d1, e _ _ d2⟩
theorem KdAt.len (h : KdAt H Kl ras acc) : ras.length = acc.length := by rw [h.rows.len, List.length_map]
theorem KdAt.kind (h : KdAt H Kl ras acc) {vs : List V} {s : Str} {M a : Addr} (hk : H Kl = some (.lst vs)) (hM : H M = some (.lst [])) (hMn : M ∉ ras) (hMK : M ≠ Kl) (ha : H a = some (.tup [.str s, .ref M])) : KdAt (upd H Kl (.lst (vs ++ [.ref a]))) Kl (ras ++ [M]) (acc ++ [(s, [])]) := by
  obtain ⟨vs', b1, b2, b3⟩ := h.kl
  rw [hk] at b1
  cases b1
  have tk : Tk H (upd H Kl (.lst (vs ++ [.ref a]))) := ((But.refl Kl H).upd).tkl hk
  have rl := h.len
  refine ⟨⟨_, upd_same, by rw [List.length_append, List.length_append, b2]; rfl, fun i k m hi hm => ?_⟩, ⟨by rw [List.length_append, List.map_append, List.length_append, List.length_map, rl]; rfl, ?_, fun q x r hx hr => ?_⟩, fun z => ?_⟩
  · by_cases c : i < acc.length
    · rw [List.getElem?_append_left c] at hi
      rw [List.getElem?_append_left (by omega)] at hm
      obtain ⟨x, d1, d2⟩ := b3 i k m hi hm
      exact ⟨x, by rw [List.getElem?_append_left (by omega)]; exact d1, tk _ _ d2⟩
    · rw [List.getElem?_append_right (by omega)] at hi
      rw [List.getElem?_append_right (by omega)] at hm
      have ei : i = acc.length := by
        have := (List.getElem?_eq_some_iff.1 hi).1
        simp at this
        omega
      subst ei
      rw [Nat.sub_self] at hi
      rw [rl, Nat.sub_self] at hm
      cases hi
      cases hm
      exact ⟨a, by rw [List.getElem?_append_right (by omega), b2, Nat.sub_self]; rfl, tk _ _ ha⟩
  · rw [List.nodup_append]
    exact ⟨h.rows.nd, by simp, fun x hx y hy => by rw [List.mem_singleton.1 hy]; exact fun e => hMn (by rw [← e]; exact hx)⟩
  · rw [List.map_append] at hr
    by_cases c : q < acc.length
    · rw [List.getElem?_append_left (by omega)] at hx
      rw [List.getElem?_append_left (by rw [List.length_map]; exact c)] at hr
      obtain ⟨us, d1, d2⟩ := h.rows.at_ q x r hx hr
      have nx : x ≠ Kl := fun e => h.ne (by rw [← e]; exact List.mem_of_getElem? hx)
      exact ⟨us, by rw [upd_ne nx]; exact d1, d2.tk tk (mks_hard r)⟩
    · rw [List.getElem?_append_right (by omega)] at hx
      rw [List.getElem?_append_right (by rw [List.length_map]; omega)] at hr
      have eq : q = acc.length := by
        have := (List.getElem?_eq_some_iff.1 hx).1
        simp at this
        omega
      subst eq
      rw [rl, Nat.sub_self] at hx
      rw [List.length_map, Nat.sub_self] at hr
      cases hx
      cases hr
      exact ⟨[], by rw [upd_ne hMK]; exact hM, by simp only [List.map, Reps]⟩
  · rcases List.mem_append.1 z with z | z
    · exact h.ne z
    · exact hMK (List.mem_singleton.1 z).symm
/-- the last kind, and its list -/
theorem KdAt.last {acc0 : Wd} {k : Str × List Mk} (h : KdAt H Kl ras (acc0 ++ [k])) : ∃ vs a M us, H Kl = some (.lst vs) ∧ vs.length = acc0.length + 1 ∧ vs[acc0.length]? = some (.ref a) ∧ H a = some (.tup [.str k.1, .ref M]) ∧ ras[acc0.length]? = some M ∧ H M = some (.lst us) ∧ Reps H (k.2.map mkD) us := by
  obtain ⟨vs, b1, b2, b3⟩ := h.kl
  have rl := h.len
  rw [List.length_append, List.length_singleton] at rl b2
  have hk : (acc0 ++ [k])[acc0.length]? = some k := by rw [List.getElem?_append_right (Nat.le_refl _), Nat.sub_self]; rfl
  have hm := List.getElem?_eq_getElem (l := ras) (i := acc0.length) (by omega)
  obtain ⟨a, c1, c2⟩ := b3 _ _ _ hk hm
  obtain ⟨us, d1, d2⟩ := h.rows.at_ acc0.length _ k.2 hm (by rw [List.getElem?_map, hk]; rfl)
  exact ⟨vs, a, _, us, b1, b2, c1, c2, hm, d1, d2⟩
end
/-- what is read, within bounds -/
structure RdB (i : Nat) (acc : Wd) : Prop where
  wide : acc.length ≤ i
  name : ∀ k ∈ acc, TextOk k.1
  row : ∀ k ∈ acc, k.2.length ≤ i
  mkr : ∀ k ∈ acc, ∀ m ∈ k.2, TextOk m.1 ∧ m.2.length ≤ 2 ∧ ∀ s ∈ m.2, TextOk s
theorem RdB.bnd {i : Nat} {acc : Wd} (h : RdB i acc) (hi : i ≤ 500) : WdB acc := ⟨by have := h.wide; omega, h.name, fun k hk => by have := h.row k hk; omega, fun k hk m hm => by
  obtain ⟨a, b, c⟩ := h.mkr k hk m hm
  exact ⟨a, by omega, c⟩⟩
theorem RdB.kind {i : Nat} {acc : Wd} {s : Str} (h : RdB i acc) (hs : isName s = true) : RdB (i + 1) (acc ++ [(s, [])]) := by
  refine ⟨by rw [List.length_append, List.length_singleton]; have := h.wide; omega, fun k hk => ?_, fun k hk => ?_, fun k hk m hm => ?_⟩
  · rcases List.mem_append.1 hk with hk | hk
    · exact h.name k hk
    · rw [List.mem_singleton.1 hk]; exact isName_text hs
  · rcases List.mem_append.1 hk with hk | hk
    · have := h.row k hk; omega
    · rw [List.mem_singleton.1 hk]; exact Nat.zero_le _
  · rcases List.mem_append.1 hk with hk | hk
    · exact h.mkr k hk m hm
    · rw [List.mem_singleton.1 hk] at hm; cases hm
theorem cutV_tail (x : V) (xs : List V) : cutV (x :: xs) (some 1) none = xs := by
  unfold cutV
  have e : HT.sIx (x :: xs).length 0 (some 1) = min 1 (xs.length + 1) := HT.sIx_nat (x :: xs).length 0 1
  rw [e, HT.sIx_none]
  have e2 : min 1 (xs.length + 1) = 1 := by omega
  rw [e2]
  show xs.take ((x :: xs).length - 1) = xs
  simp
theorem reps_at {α : Type} {H : Hp} {f : α → D} : ∀ {as : List α} {vs : List V}, vs.length = as.length → (∀ (j : Nat) (v : V), vs[j]? = some v → ∃ a, as[j]? = some a ∧ Rep H (f a) v) → Reps H (as.map f) vs
  | [], [], _, _ => by simp only [List.map, Reps]
  | [], _ :: _, h, _ => by cases h
  | _ :: _, [], h, _ => by cases h
  | a :: as, v :: vs, h, h2 => by
    obtain ⟨a', e1, r⟩ := h2 0 v rfl
    cases e1
    have z := reps_at (f := f) (H := H) (as := as) (vs := vs) (Nat.succ.inj h) fun j u hj => h2 (j + 1) u hj
    simp only [List.map, Reps]
    exact ⟨v, vs, rfl, r, z⟩
theorem isName_len6 {s : Str} (h : isName s = true) : s.length ≤ 6 := by
  unfold isName at h
  simp only [Bool.and_eq_true, decide_eq_true_eq] at h
  omega
def rJoin (K : PySem.W.Frag) : V → List V → Hp → VK → Prop := fun x xs H Q => ∃ a p, ∃ ys : List Str, x = .str a ∧ xs = [.ref p] ∧ (SqL K H p (ys.map V.str) ∨ SqT K H p (ys.map V.str)) ∧ (ys.map (·.length)).sum + ys.length * a.length ≤ 16777216 ∧ Q (.str (Txt.join a ys)) H
theorem pe_joinK {X : Cx} (K : PySem.W.Frag) {o e : Expr} {to te : TE} {apos pos : Pos} (ho : PE X o to) (he : PE X e te) (hK : X.K = K := by rfl) (hs : starEach [e] X.env = [(false, eval e X.env)] := by rfl) (hbase : attributeBase o "join" X.env (eval o X.env) = eval o X.env := by rfl) (hline : (apos.endLine == pos.line) = true := by rfl) :
    PE X (.Call (.Attribute o "join" apos) [e] [] pos) (tM1 (rJoin K) to te) := by
  subst hK
  exact pe_join ho he hs hbase hline
/-- lengths of a list of texts, each at most b -/
theorem sum_le {b : Nat} : ∀ {ss : List Str}, (∀ s ∈ ss, s.length ≤ b) → (ss.map (·.length)).sum ≤ ss.length * b
  | [], _ => Nat.zero_le _
  | s :: ss, h => by
    have a := h s List.mem_cons_self
    have z := sum_le (ss := ss) fun t ht => h t (List.mem_cons_of_mem _ ht)
    rw [List.map_cons, List.sum_cons, List.length_cons, Nat.succ_mul]
    omega
theorem joinC {y : Str} {ss : List Str} {b : Nat} (h : ∀ s ∈ ss, s.length ≤ b) (hn : ss.length ≤ 1000) (hb : b ≤ 10000) (hy : y.length ≤ 10) : (ss.map (·.length)).sum + ss.length * y.length ≤ 16777216 := by
  have a := sum_le h
  have c : ss.length * b ≤ 1000 * 10000 := Nat.mul_le_mul hn hb
  have d : ss.length * y.length ≤ 1000 * 10 := Nat.mul_le_mul hn hy
  omega
theorem joinL_len {S : List Nat} : ∀ (ps : List (List Nat)), (TL.joinL S ps).length ≤ (ps.map (·.length + S.length)).sum
  | [] => Nat.zero_le _
  | [p] => by
    show p.length ≤ _
    simp
  | p :: q :: ps => by
    have z := joinL_len (S := S) (q :: ps)
    show (p ++ (S ++ TL.joinL S (q :: ps))).length ≤ _
    rw [List.length_append, List.length_append, List.map_cons, List.sum_cons]
    omega
theorem join_chars {y : Str} {ps : List Str} : (Txt.join y ps).cps.toList = TL.joinL (TL.tl y) (ps.map TL.tl) := by
  have e1 : ∀ s : Str, SX.S (TL.tl s) = s := fun s => by
    apply TL.ext_tl
    show (SX.S (TL.tl s)).cps.toList = s.cps.toList
    unfold SX.S
    simp [TL.tl]
  have e2 : ps = (ps.map TL.tl).map SX.S := by
    rw [List.map_map]
    conv => lhs; rw [← List.map_id ps]
    exact List.map_congr_left fun s _ => (e1 s).symm
  have e3 := SX.join_S (TL.tl y) (ps.map TL.tl)
  rw [← e2, e1 y] at e3
  rw [e3]
theorem join_len {y : Str} {ps : List Str} {b : Nat} (h : ∀ s ∈ ps, s.length ≤ b) : (Txt.join y ps).length ≤ ps.length * (b + y.length) := by
  rw [str_len, join_chars]
  refine Nat.le_trans (joinL_len _) ?_
  rw [List.map_map]
  have e : ((ps.map ((fun p : List Nat => p.length + (TL.tl y).length) ∘ TL.tl)).sum) ≤ ps.length * (b + y.length) := by
    induction ps with
    | nil => exact Nat.zero_le _
    | cons p ps ih =>
      have a := h p List.mem_cons_self
      have z := ih fun s hs => h s (List.mem_cons_of_mem _ hs)
      rw [List.map_cons, List.sum_cons, List.length_cons, Nat.succ_mul]
      have e1 : ((fun p : List Nat => p.length + (TL.tl y).length) ∘ TL.tl) p = p.length + y.length := by
        show p.cps.toList.length + y.cps.toList.length = _
        rw [← str_len, ← str_len]
      rw [e1]
      omega
  exact e
/-- a row as it may be: no line feed, signs, so long -/
structure RowOk (b : Nat) (s : Str) : Prop where
  len : s.length ≤ b
  sign : ∀ c ∈ s.cps.toList, c < 0x110000
  line : 10 ∉ s.cps.toList
end Bk
set_option Elab.async false
set_option linter.all false
set_option maxRecDepth 100000
set_option maxHeartbeats 4000000
/-! Bk24: replace of written texts behind a token. -/
namespace Bk
open PySem PySem.Spec PyProof.Rows L2
theorem map_tl_inj {as bs : List Str} (h : as.map TL.tl = bs.map TL.tl) : as = bs := by
  induction as generalizing bs with
  | nil =>
    cases bs with
    | nil => rfl
    | cons _ _ => cases h
  | cons a as ih =>
    cases bs with
    | nil => cases h
    | cons b bs =>
      rw [List.map_cons, List.map_cons] at h
      obtain ⟨h1, h2⟩ := List.cons.inj h
      rw [TL.ext_tl h1, ih h2]
theorem count_no {s : Str} (h : 10 ∉ s.cps.toList) : s.cps.toList.count 10 = 0 := List.count_eq_zero.2 h
/-- a word that may be put in -/
structure WordOk (b : Nat) (s : Str) : Prop where
  len : s.length ≤ b
  sign : ∀ c ∈ s.cps.toList, c < 0x110000
  few : s.cps.toList.count 10 ≤ 10
/-- a row that may stand among the others: long, some line feeds -/
structure NewRow (b : Nat) (s : Str) : Prop where
  len : s.length ≤ b
  sign : ∀ c ∈ s.cps.toList, c < 0x110000
  few : s.cps.toList.count 10 ≤ 20
theorem RowOk.new {b b' : Nat} {s : Str} (h : RowOk b s) (hb : b ≤ b') : NewRow b' s := ⟨Nat.le_trans h.len hb, h.sign, by rw [count_no h.line]; exact Nat.zero_le _⟩
theorem WordOk.new {L : Nat} {s : Str} (h : WordOk (L + 10) s) : NewRow (3 * L + 20) s := ⟨by have := h.len; omega, h.sign, by have := h.few; omega⟩
theorem app3 (a b : Str) : ((a ++ (" " : Str)) ++ b).cps.toList = a.cps.toList ++ [32] ++ b.cps.toList := by
  show ((a.cps ++ (" " : Str).cps) ++ b.cps).toList = _
  have e : (" " : Str).cps.toList = [32] := by decide +kernel
  rw [Array.toList_append, Array.toList_append, e]
theorem WordOk.two {L : Nat} {s : Str} (h : WordOk (L + 10) s) (hL : 1 ≤ L) : NewRow (3 * L + 20) ((s ++ (" " : Str)) ++ s) := by
  have hl := h.len
  have hf := h.few
  refine ⟨?_, fun c hc => ?_, ?_⟩
  · rw [str_len, app3, List.length_append, List.length_append, List.length_singleton, ← str_len]
    omega
  · rw [app3] at hc
    rcases List.mem_append.1 hc with hc | hc
    · rcases List.mem_append.1 hc with hc | hc
      · exact h.sign c hc
      · rw [List.mem_singleton.1 hc]; decide
    · exact h.sign c hc
  · rw [app3, List.count_append, List.count_append]
    have : List.count 10 [32] = 0 := by decide
    omega
end Bk
set_option Elab.async false
set_option linter.all false
set_option maxRecDepth 100000
set_option maxHeartbeats 4000000
/-! Bk25: a wood that is looked at and let by; what a text of a wood comes to. -/
namespace Bk
open PySem PySem.Spec PyProof.Rows L2
theorem sizes_map {α : Type} {f : α → D} {b : Nat} : ∀ {xs : List α}, (∀ x ∈ xs, (f x).size ≤ b) → D.sizes (xs.map f) ≤ xs.length * b
  | [], _ => by simp [D.sizes]
  | x :: xs, h => by
    have a := h x List.mem_cons_self
    have z := sizes_map (f := f) (b := b) (xs := xs) fun y hy => h y (List.mem_cons_of_mem _ hy)
    rw [List.map_cons]
    simp only [D.sizes]
    rw [List.length_cons, Nat.succ_mul]
    omega
end Bk
set_option Elab.async false
set_option linter.all false
set_option maxRecDepth 100000
set_option maxHeartbeats 4000000
/-! Bk26: zip(a, b) of lists and tuples of one length, of whichever sort each. -/
namespace Bk
open PySem PySem.Spec PyProof.Rows L2
section
variable {prog : Program} {w : World} {A : Around} {E : Value → Shared → Prop} {s : Shared}
theorem nz_item {k1 k2 : Bool} {z TI TO i1 i2 l1 l2 : Addr} {i : Nat} {xs ys : Array Value} {x y a b : Value} {Q : Value → Shared → Prop} (D : ZipApart z TI TO i1 i2 l1 l2)
    (hz : IsZip s.heap z TI TO .none) (hTI : IsPair s.heap TI (.ref i1) (.ref i2)) (hTO : IsPair s.heap TO a b) (h1 : SIt s.heap k1 i1 l1 i xs) (h2 : SIt s.heap k2 i2 l2 i ys) (hx : xs[i]? = some x) (hy : ys[i]? = some y)
    (hQ : ∀ h', IsZip h' z TI TO (rawInt s.heap.objs.size) → IsPair h' TO x y → SIt h' k1 i1 l1 (i + 1) xs → SIt h' k2 i2 l2 (i + 1) ys → IsPair h' s.heap.objs.size x y → h'.objs.size = s.heap.objs.size + 1 →
      (∀ c o, c ≠ z → c ≠ TO → c ≠ i1 → c ≠ i2 → s.heap.get? c = some o → h'.get? c = some o) → Q (.ref s.heap.objs.size) { s with heap := h' }) :
    wpAny (model prog w) A (Builtin.«zip.__next__» ⟨[.ref z], []⟩) (fun fin s' => ∃ v, fin = .done (.ret v) ∧ Q v s') E s := by
  show wpAny _ _ (field (.ref z) 2 >>= _) _ _ _
  refine wpAny_bind (wpAny_field hz rfl (x := .bool false) rfl ?_)
  show wpAny _ _ (field (.ref z) 3 >>= _) _ _ _
  refine wpAny_bind (wpAny_field hz rfl (x := .ref TI) rfl ?_)
  refine wpAny_bind (wpAny_seqItems hTI rfl ?_)
  show wpAny _ _ (Builtin.SmallTypes.ownedTupleIsFree (.ref z) >>= _) _ _ _
  refine wpAny_bind ?_
  unfold Builtin.SmallTypes.ownedTupleIsFree
  refine wpAny_bind (wpAny_field hz rfl (x := .none) rfl (wpAny_pure ?_))
  simp only [if_true]
  refine wpAny_bind (wpAny_rule ?_)
  refine wpAny_bind (wpAny_field hz rfl (x := .ref TO) rfl ?_)
  refine wpAny_bind (wpAny_setField_rec hz (by simp) fun g1 hz1 hs1 => ?_)
  replace hz1 : IsZip g1 z TI TO .ellipsis := hz1
  refine wpAny_bind ?_
  simp only [List.zipIdx_cons, List.zipIdx_nil, List.forIn_cons, List.forIn_nil]
  refine wpAny_bind (wpAny_bind (wpAny_onRaise ?_))
  show wpAny _ _ (Builtin.SmallTypes.nextOf (.ref i1) >>= _) _ _ _
  refine wpAny_bind (sit_item (h1.keep (fun o e => hs1.extBut _ _ D.i1z e) (fun o e => hs1.extBut _ _ D.l1z e)) D.l1i1 hx fun g2 h12 hs2 => wpAny_pure ?_)
  have hTO2 : IsPair g2 TO a b := hs2.extBut _ _ D.TOi1 (hs1.extBut _ _ D.TOz hTO)
  refine wpAny_bind (wpAny_seqItems hTO2 rfl ?_)
  refine wpAny_bind (wpAny_updateSeq_pair hTO2 fun g3 hTO3 hs3 => ?_)
  replace hTO3 : IsPair g3 TO x b := hTO3
  refine wpAny_bind (wpAny_letGo (wpAny_pure ?_))
  refine wpAny_bind (wpAny_bind (wpAny_onRaise ?_))
  show wpAny _ _ (Builtin.SmallTypes.nextOf (.ref i2) >>= _) _ _ _
  refine wpAny_bind (sit_item (h2.keep (fun o e => hs3.extBut _ _ D.TOi2.symm (hs2.extBut _ _ D.i12.symm (hs1.extBut _ _ D.i2z e))) (fun o e => hs3.extBut _ _ D.l2TO (hs2.extBut _ _ D.l2i1 (hs1.extBut _ _ D.l2z e)))) D.l2i2 hy fun g4 h24 hs4 => wpAny_pure ?_)
  have hTO4 : IsPair g4 TO x b := hs4.extBut _ _ D.TOi2 hTO3
  refine wpAny_bind (wpAny_seqItems hTO4 rfl ?_)
  refine wpAny_bind (wpAny_updateSeq_pair hTO4 fun g5 hTO5 hs5 => ?_)
  replace hTO5 : IsPair g5 TO x y := hTO5
  refine wpAny_bind (wpAny_letGo (wpAny_pure (wpAny_pure ?_)))
  refine wpAny_bind (wpAny_seqItems hTO5 rfl ?_)
  refine wpAny_bind (wpAny_newTuple ?_)
  have hsz : g5.objs.size = s.heap.objs.size := by rw [hs5.1, hs4.1, hs3.1, hs2.1, hs1.1]
  have kp : ∀ c o, c ≠ z → c ≠ TO → c ≠ i1 → c ≠ i2 → s.heap.get? c = some o → g5.get? c = some o := fun c o c1 c2 c3 c4 e =>
    hs5.extBut _ _ c2 (hs4.extBut _ _ c4 (hs3.extBut _ _ c2 (hs2.extBut _ _ c3 (hs1.extBut _ _ c1 e))))
  have hz5 : IsZip g5 z TI TO .ellipsis := hs5.extBut _ _ D.TOz.symm (hs4.extBut _ _ D.i2z.symm (hs3.extBut _ _ D.TOz.symm (hs2.extBut _ _ D.i1z.symm hz1)))
  have h15 : SIt g5 k1 i1 l1 (i + 1) xs := h12.keep (fun o e => hs5.extBut _ _ D.TOi1.symm (hs4.extBut _ _ D.i12 (hs3.extBut _ _ D.TOi1.symm e))) (fun o e => hs5.extBut _ _ D.l1TO (hs4.extBut _ _ D.l1i2 (hs3.extBut _ _ D.l1TO e)))
  have h25 : SIt g5 k2 i2 l2 (i + 1) ys := h24.keep (fun o e => hs5.extBut _ _ D.TOi2.symm e) (fun o e => hs5.extBut _ _ D.l2TO e)
  have hzlt : z < g5.objs.size := Heap.lt_size hz5
  show wpAny _ _ (Builtin.SmallTypes.ownedTupleHandOut (.ref z) (.ref g5.objs.size) >>= _) _ _ _
  refine wpAny_bind ?_
  unfold Builtin.SmallTypes.ownedTupleHandOut
  have hz6 : IsZip (g5.push { cls := .type "tuple", data := .seq #[x, y] }) z TI TO .ellipsis := Heap.get?_push_of_some _ hz5
  refine wpAny_bind (wpAny_setField_rec hz6 (by simp) fun g7 hz7 hs7 => ?_)
  replace hz7 : IsZip g7 z TI TO (rawInt g5.objs.size) := hz7
  refine wpAny_setField_rec hz7 (by simp) fun g8 hz8 hs8 => ?_
  replace hz8 : IsZip g8 z TI TO (rawInt g5.objs.size) := hz8
  have up : ∀ c o, c ≠ z → g5.get? c = some o → g8.get? c = some o := fun c o c1 e => hs8.extBut _ _ c1 (hs7.extBut _ _ c1 (Heap.get?_push_of_some _ e))
  have hT8 : IsPair g8 g5.objs.size x y := hs8.extBut _ _ (Nat.ne_of_gt hzlt) (hs7.extBut _ _ (Nat.ne_of_gt hzlt) (Heap.get?_push_size _ rfl))
  have z8 : g8.objs.size = g5.objs.size + 1 := by rw [hs8.1, hs7.1, Heap.size_push]
  rw [hsz] at hz8 hT8 z8
  refine wpAny_pure ⟨_, rfl, ?_⟩
  show Q (.ref g5.objs.size) _
  rw [hsz]
  exact hQ g8 hz8 (up _ _ D.TOz hTO5) (h15.keep (fun o e => up _ o D.i1z e) (fun o e => up _ o D.l1z e)) (h25.keep (fun o e => up _ o D.i2z e) (fun o e => up _ o D.l2z e)) hT8 z8 fun c o c1 c2 c3 c4 e => up c o c1 (kp c o c1 c2 c3 c4 e)
theorem nz_end {k1 k2 : Bool} {z TI TO i1 i2 l1 l2 : Addr} {i : Nat} {xs ys : Array Value} {a b : Value} {Q : Fin → Shared → Prop} (hh : A.handled = none) (D : ZipApart z TI TO i1 i2 l1 l2)
    (hz : IsZip s.heap z TI TO .none) (hTI : IsPair s.heap TI (.ref i1) (.ref i2)) (hTO : IsPair s.heap TO a b) (h1 : SIt s.heap k1 i1 l1 i xs) (h2 : SIt s.heap k2 i2 l2 i ys) (hx : xs[i]? = none) (hy : ys[i]? = none)
    (hE : ∀ h' e, (∀ c o, c ≠ z → c ≠ TO → c ≠ i1 → c ≠ i2 → s.heap.get? c = some o → h'.get? c = some o) → (∃ o, h'.get? e = some o ∧ o.cls = .type "StopIteration") → E (.ref e) { s with heap := h' }) :
    wpAny (model prog w) A (Builtin.«zip.__next__» ⟨[.ref z], []⟩) Q E s := by
  show wpAny _ _ (field (.ref z) 2 >>= _) _ _ _
  refine wpAny_bind (wpAny_field hz rfl (x := .bool false) rfl ?_)
  show wpAny _ _ (field (.ref z) 3 >>= _) _ _ _
  refine wpAny_bind (wpAny_field hz rfl (x := .ref TI) rfl ?_)
  refine wpAny_bind (wpAny_seqItems hTI rfl ?_)
  show wpAny _ _ (Builtin.SmallTypes.ownedTupleIsFree (.ref z) >>= _) _ _ _
  refine wpAny_bind ?_
  unfold Builtin.SmallTypes.ownedTupleIsFree
  refine wpAny_bind (wpAny_field hz rfl (x := .none) rfl (wpAny_pure ?_))
  simp only [if_true]
  refine wpAny_bind (wpAny_rule ?_)
  refine wpAny_bind (wpAny_field hz rfl (x := .ref TO) rfl ?_)
  refine wpAny_bind (wpAny_setField_rec hz (by simp) fun g1 hz1 hs1 => ?_)
  replace hz1 : IsZip g1 z TI TO .ellipsis := hz1
  refine wpAny_bind ?_
  simp only [List.zipIdx_cons, List.zipIdx_nil, List.forIn_cons, List.forIn_nil]
  refine wpAny_bind (wpAny_bind (wpAny_onRaise ?_))
  show wpAny _ _ (Builtin.SmallTypes.nextOf (.ref i1) >>= _) _ _ _
  refine wpAny_bind (sit_end hh (h1.keep (fun o e => hs1.extBut _ _ D.i1z e) (fun o e => hs1.extBut _ _ D.l1z e)) hx fun g2 e hs2 he => ?_)
  obtain ⟨oe, hoe, hce⟩ := he
  have hz2 : IsZip g2 z TI TO .ellipsis := hs2 _ _ D.i1z.symm hz1
  have hez : e ≠ z := fun x => by subst x; rw [hz2] at hoe; cases hoe; simp at hce
  exact wpAny_setField_rec hz2 (by simp) fun g3 _ hs3 => hE g3 e (fun c o c1 _ c3 _ x => hs3.extBut _ _ c1 (hs2 _ _ c3 (hs1.extBut _ _ c1 x))) ⟨oe, hs3.extBut _ _ hez hoe, hce⟩
theorem nz_nextItem {k1 k2 : Bool} {z TI TO i1 i2 l1 l2 : Addr} {i : Nat} {xs ys : Array Value} {x y a b : Value} {Q : Option Value → Shared → Prop} (D : ZipApart z TI TO i1 i2 l1 l2)
    (hz : IsZip s.heap z TI TO .none) (hTI : IsPair s.heap TI (.ref i1) (.ref i2)) (hTO : IsPair s.heap TO a b) (h1 : SIt s.heap k1 i1 l1 i xs) (h2 : SIt s.heap k2 i2 l2 i ys) (hx : xs[i]? = some x) (hy : ys[i]? = some y)
    (hQ : ∀ h', IsZip h' z TI TO (rawInt s.heap.objs.size) → IsPair h' TO x y → SIt h' k1 i1 l1 (i + 1) xs → SIt h' k2 i2 l2 (i + 1) ys → IsPair h' s.heap.objs.size x y → h'.objs.size = s.heap.objs.size + 1 →
      (∀ c o, c ≠ z → c ≠ TO → c ≠ i1 → c ≠ i2 → s.heap.get? c = some o → h'.get? c = some o) → Q (some (.ref s.heap.objs.size)) { s with heap := h' }) : wpAny (model prog w) A (pyNext (.ref z)) Q E s := by
  have hT : s.TypeIs (.ref z) "zip" := ⟨_, hz, rfl⟩
  unfold pyNext
  exact wpAny_bind (wpAny_attempt (wpAny_callSpecial?_slot (name := Str.ofString "__next__") hT F.slot_zip_next
    (wpAny_call_entry F.slot_zip_next hT F.entry_zip_next (nz_item D hz hTI hTO h1 h2 hx hy fun h' a1 a2 a3 a4 a5 a6 a7 => wpAny_pure (hQ h' a1 a2 a3 a4 a5 a6 a7)) (F.args_zip_next_1 _))))
theorem nz_nextEnd {k1 k2 : Bool} {z TI TO i1 i2 l1 l2 : Addr} {i : Nat} {xs ys : Array Value} {a b : Value} {Q : Option Value → Shared → Prop} (hh : A.handled = none) (D : ZipApart z TI TO i1 i2 l1 l2)
    (hz : IsZip s.heap z TI TO .none) (hTI : IsPair s.heap TI (.ref i1) (.ref i2)) (hTO : IsPair s.heap TO a b) (h1 : SIt s.heap k1 i1 l1 i xs) (h2 : SIt s.heap k2 i2 l2 i ys) (hx : xs[i]? = none) (hy : ys[i]? = none)
    (hQ : ∀ h', (∀ c o, c ≠ z → c ≠ TO → c ≠ i1 → c ≠ i2 → s.heap.get? c = some o → h'.get? c = some o) → Q none { s with heap := h' }) : wpAny (model prog w) A (pyNext (.ref z)) Q E s := by
  have hT : s.TypeIs (.ref z) "zip" := ⟨_, hz, rfl⟩
  unfold pyNext
  refine wpAny_bind (wpAny_attempt (wpAny_callSpecial?_slot (name := Str.ofString "__next__") hT F.slot_zip_next
    (wpAny_call_entry F.slot_zip_next hT F.entry_zip_next (nz_end hh D hz hTI hTO h1 h2 hx hy fun h' e hk he => ?_) (F.args_zip_next_1 _))))
  obtain ⟨o, ho, hc⟩ := he
  refine wpAny_bind (wpAny_isInstance (T := "StopIteration") (b := true) ⟨o, ho, hc⟩ isSubtype_stop ?_)
  exact wpAny_pure (hQ _ hk)
end
/-! ### the turns -/
theorem turn_zipN {P : Program} {w : World} {K : PySem.W.Frag} {elts : List Expr} {kk : Nat} {tpos : Pos} {k1 k2 : Bool} {a b z TI TO i1 i2 : Addr} (D : ZipApart z TI TO i1 i2 a b) :
    Turn P w K (.Tuple elts kk tpos) (ItS K k1 k2 a b) [z, TI, TO, i1, i2] z (fun i h => IsZip h z TI TO .none ∧ IsPair h TI (.ref i1) (.ref i2) ∧ (∃ x y, IsPair h TO x y) ∧ KI h k1 i1 a i ∧ KI h k2 i2 b i) where
  mem := by simp
  obj := fun i h st c hc => by
    obtain ⟨hz, hTI, ⟨x, y, hTO⟩, h1, h2⟩ := st
    obtain ⟨o1, e1, d1⟩ := h1.get
    obtain ⟨o2, e2, d2⟩ := h2.get
    have e' : c = z ∨ c = TI ∨ c = TO ∨ c = i1 ∨ c = i2 := by simpa using hc
    rcases e' with q | q | q | q | q
    · rw [q]; exact ⟨_, hz, fun v q => nomatch q⟩
    · rw [q]; exact ⟨_, hTI, fun v q => nomatch q⟩
    · rw [q]; exact ⟨_, hTO, fun v q => nomatch q⟩
    · rw [q]; exact ⟨o1, e1, d1⟩
    · rw [q]; exact ⟨o2, e2, d2⟩
  keep := fun i h h' st k => by
    obtain ⟨hz, hTI, ⟨x, y, hTO⟩, h1, h2⟩ := st
    exact ⟨k z (by simp) _ hz, k TI (by simp) _ hTI, ⟨x, y, k TO (by simp) _ hTO⟩, h1.at fun o q => k i1 (by simp) o q, h2.at fun o q => k i2 (by simp) o q⟩
  item := by
    intro X hP hw hK hc i pins s σ H E I hf st hg
    subst hP hw hK
    obtain ⟨hz, hTI, ⟨x0, y0, hTO⟩, h1, h2⟩ := st
    obtain ⟨xs, ys, x, y, hqx, hqy, hx, hy⟩ := hg
    obtain ⟨its, rv, p⟩ := sqk_its I hqx
    obtain ⟨its2, rv2, p2⟩ := sqk_its I hqy
    obtain ⟨u, hu, ru⟩ := rv.get hx
    obtain ⟨u2, hu2, ru2⟩ := rv2.get hy
    have hzl : z < s.heap.objs.size := Heap.lt_size hz
    refine nz_nextItem D hz hTI hTO (p h1) (p2 h2) (x := u) (y := u2) (by simpa using hu) (by simpa using hu2) fun h' z' TO' h1' h2' hT hsz hk => ?_
    refine ⟨_, rfl, wpAny_letOwnedTupleGo_zip (s := { s with heap := h' }) z' fun h'' z'' sb => ?_⟩
    have hT2 : h''.get? s.heap.objs.size = some { cls := .type "tuple", data := .seq #[u, u2] } := (sb.2 _ (Nat.ne_of_gt hzl)).trans hT
    have new : ObjOk X.prog X.w (upd H s.heap.objs.size (.tup [x, y])) h'' s.heap.objs.size (.tup [x, y]) :=
      ⟨by show 2 ≤ sizeLine; decide, [u, u2], .cons ru (.cons ru2 .nil), ⟨_, hT2, rfl, _, rfl⟩⟩
    have I1 : Inv X pins σ (upd H s.heap.objs.size (.tup [x, y])) { s with heap := h'' } :=
      I.turnedNew (t' := s.toks) (ch := [z, TI, TO, i1, i2]) (fun c o hb q => (sb.2 c (fun q' => hb (by simp [q']))).trans (hk c o (fun q' => hb (by simp [q'])) (fun q' => hb (by simp [q'])) (fun q' => hb (by simp [q'])) (fun q' => hb (by simp [q'])) q)) hf (Nat.le_refl _) new
    refine ⟨.ref s.heap.objs.size, _, I1, rfl, ⟨_, x, y, rfl, I.hok.fresh (Nat.le_refl _), rfl, fun l hl => by rw [sqk_inj I hl hqx]; exact hx, fun l hl => by rw [sqk_inj I hl hqy]; exact hy⟩, ⟨z'', ?_, ⟨u, u2, ?_⟩, ?_, ?_⟩, fun c hcm => ?_⟩
    · exact (sb.2 _ D.TIz).trans (hk _ _ D.TIz D.TITO D.TIi1 D.TIi2 hTI)
    · exact (sb.2 _ D.TOz).trans TO'
    · exact h1'.ki.at fun o q => (sb.2 _ D.i1z).trans q
    · exact h2'.ki.at fun o q => (sb.2 _ D.i2z).trans q
    · have hlt : c < s.heap.objs.size := by
        have e' : c = z ∨ c = TI ∨ c = TO ∨ c = i1 ∨ c = i2 := by simpa using hcm
        rcases e' with q | q | q | q | q
        · rw [q]; exact hzl
        · rw [q]; exact Heap.lt_size hTI
        · rw [q]; exact Heap.lt_size hTO
        · rw [q]; obtain ⟨_, e1, _⟩ := h1.get; exact Heap.lt_size e1
        · rw [q]; obtain ⟨_, e2, _⟩ := h2.get; exact Heap.lt_size e2
      rw [upd_ne (Nat.ne_of_lt hlt)]
      exact (hf c hcm).1
  done := by
    intro X hP hw hK hc i pins s σ H E I hf st hg
    subst hP hw hK
    obtain ⟨hz, hTI, ⟨x0, y0, hTO⟩, h1, h2⟩ := st
    obtain ⟨xs, ys, hqx, hqy, he1, he2⟩ := hg
    obtain ⟨its, rv, p⟩ := sqk_its I hqx
    obtain ⟨its2, rv2, p2⟩ := sqk_its I hqy
    have l1 := rv.length
    have l2 := rv2.length
    exact nz_nextEnd (I.ok.hd hc) D hz hTI hTO (p h1) (p2 h2) (by simp; omega) (by simp; omega) fun h' hk => ⟨rfl, I.turnedL (t' := s.toks) (ch := [z, TI, TO, i1, i2]) (fun c o hb q => hk c o (fun q' => hb (by simp [q'])) (fun q' => hb (by simp [q'])) (fun q' => hb (by simp [q'])) (fun q' => hb (by simp [q'])) q) hf⟩
  self := fun A i s Q E st h => wpAny_pyIter_zip st.1 h
def iZipN (K : PySem.W.Frag) (ta : TA) : TI := fun σ H R => ta σ H fun vs H1 => ∃ (k1 k2 : Bool) (a b : Addr) (xs ys : List V), vs = [.ref a, .ref b] ∧ SqK K H1 k1 a xs ∧ SqK K H1 k2 b ys ∧ R (ItS K k1 k2 a b) H1
section
variable {X : Cx} {pins : List (Addr × Obj)} {σ : L2.St} {H : Hp} {s : Shared}
theorem sqk_begins {k : Bool} {a : Addr} {xs : List V} (I : Inv X pins σ H s) (h : SqK X.K H k a xs) : ∃ (o : Obj) (H1 : Heap → Prop), Begins (.ref a) o H1 ∧ H1 s.heap ∧ a < s.heap.objs.size ∧ ∀ (h' : Heap) (it : Addr), h'.get? it = some o → KI h' k it a 0 := by
  cases k with
  | true =>
    obtain ⟨i1, v1, p1, _⟩ := I.tuple h
    obtain ⟨o1, ho1, _⟩ := id p1
    exact ⟨_, _, begins_tuple a i1.toArray, (show s.heap.IsTuple a i1.toArray from p1), Heap.lt_size ho1, fun h' it g => (show h'.IsTupleIter it a 0 from ⟨_, g, rfl, rfl⟩)⟩
  | false =>
    obtain ⟨i1, v1, p1, _⟩ := I.list h
    exact ⟨_, _, begins_list a i1.toArray, p1.isList, p1.lt, fun h' it g => (show h'.IsListIter it a 0 from ⟨_, g, rfl, rfl⟩)⟩
end
theorem pi_zipN {X : Cx} {e e2 : Expr} {ta : TA} {p pos tpos : Pos} {elts : List Expr} {kk : Nat} (hg : Gl X "zip") (hm : X.mg "zip" = none) (ha : PA X [e, e2] ta)
    (hs : starEach [e, e2] X.env = (false, eval e X.env) :: starEach [e2] X.env := by rfl) (hpl : (backTo pos (starEach [e2] X.env)).any (·.1) = false := by rfl) :
    PI X (.Tuple elts kk tpos) (.Call (.Name "zip" p) [e, e2] [] pos) (iZipN X.K ta) := by
  refine ⟨fun pins s σ H R I h => ?_⟩
  refine Call_ (ld_blt I hg hm PyProof.Rows.boot_zip (PyProof.Rows.callWith_type1 (thn (ha.run pos pins s σ H _ I h) fun us s2 ⟨vs, H2, I2, r1, q1⟩ => ?_) hs hpl))
  obtain ⟨k1, k2, a, b, xs, ys, ex, hqx, hqy, q⟩ := q1
  subst ex
  cases r1 with
  | cons r rr =>
    cases rr with
    | cons r' rr =>
      cases rr
      cases r
      cases r'
      have fresh5 : ∀ c, c ∈ [s2.heap.objs.size + 4, s2.heap.objs.size + 2, s2.heap.objs.size + 3, s2.heap.objs.size, s2.heap.objs.size + 1] → FpOk X pins H2 c := fun c hcm => by
        have e' : c = s2.heap.objs.size + 4 ∨ c = s2.heap.objs.size + 2 ∨ c = s2.heap.objs.size + 3 ∨ c = s2.heap.objs.size ∨ c = s2.heap.objs.size + 1 := by simpa using hcm
        have hle : s2.heap.objs.size ≤ c := by omega
        exact I2.fpOk hle (I2.hok.fresh hle)
      obtain ⟨o1, P1, B1, w1, l1, g1'⟩ := sqk_begins I2 hqx
      obtain ⟨o2, P2, B2, w2, l2, g2'⟩ := sqk_begins I2 hqy
      refine zip_begins2 B1 B2 w1 w2 fun h' hz hTI hTO g1 g2 hsz hk => wpAny_pyIter_zip hz ?_
      exact ⟨s2.heap.objs.size + 4, [s2.heap.objs.size + 4, s2.heap.objs.size + 2, s2.heap.objs.size + 3, s2.heap.objs.size, s2.heap.objs.size + 1], _, _, H2, rfl, I2.kept (t' := s2.toks) hk, turn_zipN (k1 := k1) (k2 := k2) (PySem.W.ktu_apart s2.heap.objs.size a b l1 l2), ⟨hz, hTI, ⟨_, _, hTO⟩, g1' _ _ g1, g2' _ _ g2⟩, fresh5, q⟩
end Bk
set_option Elab.async false
set_option linter.all false
set_option maxRecDepth 100000
set_option maxHeartbeats 4000000
/-! Bk27: readers as data: counts and rules; what is amiss in one. -/
namespace Bk
open PySem PySem.Spec PyProof.Rows L2
abbrev Fx := Int × Int
abbrev Tm := Fx × List (Option Int)
abbrev Sm := List Tm
abbrev Rl := List Sm
abbrev Rd := List Int × List Rl
def fxD (f : Fx) : D := .tup [.int f.1, .int f.2]
def bxD : Option Int → D
  | none => .non
  | some i => .int i
def bxV : Option Int → V
  | none => .non
  | some i => .int i
def tmD (t : Tm) : D := .tup [fxD t.1, .tup (t.2.map bxD)]
def smD (s : Sm) : D := .tup (s.map tmD)
def rlD (r : Rl) : D := .tup (r.map smD)
def rdD (r : Rd) : D := .tup [.tup (r.1.map D.int), .tup (r.2.map rlD)]
theorem Reps.boxes {H : Hp} : ∀ {bs : List (Option Int)} {vs : List V}, Reps H (bs.map bxD) vs → vs = bs.map bxV
  | [], vs, h => by simpa only [List.map, Reps] using h
  | b :: bs, vs, h => by
    rw [List.map_cons] at h
    obtain ⟨v, r, rfl, hv, hr⟩ := h
    rw [Reps.boxes hr]
    cases b with
    | none =>
      have : v = .non := by simpa only [bxD, Rep] using hv
      rw [this]
      rfl
    | some i =>
      have : v = .int i := by simpa only [bxD, Rep] using hv
      rw [this]
      rfl
theorem boxesReps {H : Hp} : ∀ bs : List (Option Int), Reps H (bs.map bxD) (bs.map bxV)
  | [] => by simp only [List.map, Reps]
  | b :: bs => by
    refine ⟨_, _, rfl, ?_, boxesReps bs⟩
    cases b with
    | none => exact Rep.n
    | some i => exact Rep.i i
theorem Reps.ints {H : Hp} : ∀ {is : List Int} {vs : List V}, Reps H (is.map D.int) vs → vs = is.map V.int
  | [], vs, h => by simpa only [List.map, Reps] using h
  | i :: is, vs, h => by
    rw [List.map_cons] at h
    obtain ⟨v, r, rfl, hv, hr⟩ := h
    rw [Reps.ints hr]
    have : v = .int i := by simpa only [Rep] using hv
    rw [this]
    rfl
theorem Reps.two {H : Hp} {d e : D} {vs : List V} (h : Reps H [d, e] vs) : ∃ x y, vs = [x, y] ∧ Rep H d x ∧ Rep H e y := by
  obtain ⟨x, r, rfl, hx, h⟩ := h
  obtain ⟨y, r, rfl, hy, h⟩ := h
  have : r = [] := by simpa only [Reps] using h
  subst this
  exact ⟨x, y, rfl, hx, hy⟩
theorem fx_at {H : Hp} {f : Fx} {v : V} (h : Rep H (fxD f) v) : ∃ p, v = .ref p ∧ H p = some (.tup [.int f.1, .int f.2]) := by
  obtain ⟨a, xs, rfl, ha, rs⟩ := Rep.tupI h
  obtain ⟨x, y, rfl, hx, hy⟩ := rs.two
  have e1 : x = .int f.1 := by simpa only [Rep] using hx
  have e2 : y = .int f.2 := by simpa only [Rep] using hy
  subst e1 e2
  exact ⟨a, rfl, ha⟩
theorem Rep.fx {H : Hp} {f : Fx} {p : Addr} (h : H p = some (.tup [.int f.1, .int f.2])) : Rep H (fxD f) (.ref p) := Rep.two h (Rep.i _) (Rep.i _)
theorem tm_at {H : Hp} {t : Tm} {v : V} (h : Rep H (tmD t) v) : ∃ a p q, v = .ref a ∧ H a = some (.tup [.ref p, .ref q]) ∧ H p = some (.tup [.int t.1.1, .int t.1.2]) ∧ H q = some (.tup (t.2.map bxV)) := by
  obtain ⟨a, xs, rfl, ha, rs⟩ := Rep.tupI h
  obtain ⟨x, y, rfl, hx, hy⟩ := rs.two
  obtain ⟨p, rfl, hp⟩ := fx_at hx
  obtain ⟨q, ys, rfl, hq, rq⟩ := Rep.tupI hy
  rw [rq.boxes] at hq
  exact ⟨a, p, q, rfl, ha, hp, hq⟩
theorem Rep.tm {H : Hp} {t : Tm} {a p q : Addr} (ha : H a = some (.tup [.ref p, .ref q])) (hp : H p = some (.tup [.int t.1.1, .int t.1.2])) (hq : H q = some (.tup (t.2.map bxV))) : Rep H (tmD t) (.ref a) :=
  Rep.two ha (Rep.fx hp) (by simp only [Rep]; exact ⟨q, _, rfl, hq, boxesReps _⟩)
theorem Rep.tupO {H : Hp} {ds : List D} {a : Addr} {xs : List V} (ha : H a = some (.tup xs)) (h : Reps H ds xs) : Rep H (.tup ds) (.ref a) := by
  simp only [Rep]
  exact ⟨a, xs, rfl, ha, h⟩
theorem rd_at {H : Hp} {r : Rd} {v : V} (h : Rep H (rdD r) v) : ∃ a c b xs, v = .ref a ∧ H a = some (.tup [.ref c, .ref b]) ∧ H c = some (.tup (r.1.map V.int)) ∧ H b = some (.tup xs) ∧ Reps H (r.2.map rlD) xs := by
  obtain ⟨a, ys, rfl, ha, rs⟩ := Rep.tupI h
  obtain ⟨x, y, rfl, hx, hy⟩ := rs.two
  obtain ⟨c, zs, rfl, hc, rc⟩ := Rep.tupI hx
  obtain ⟨b, xs, rfl, hb, rb⟩ := Rep.tupI hy
  rw [rc.ints] at hc
  exact ⟨a, c, b, xs, rfl, ha, hc, hb, rb⟩
theorem Rep.rd {H : Hp} {r : Rd} {a c b : Addr} {xs : List V} (ha : H a = some (.tup [.ref c, .ref b])) (hc : H c = some (.tup (r.1.map V.int))) (hb : H b = some (.tup xs)) (rb : Reps H (r.2.map rlD) xs) : Rep H (rdD r) (.ref a) :=
  Rep.two ha (Rep.ints hc) (Rep.tupO hb rb)
theorem boxes_hard : ∀ bs : List (Option Int), D.hards (bs.map bxD) = true
  | [] => rfl
  | b :: bs => by
    show ((bxD b).hard && D.hards (bs.map bxD)) = true
    rw [boxes_hard bs]
    cases b <;> rfl
theorem tm_hard (t : Tm) : (tmD t).hard = true := by
  show ((fxD t.1).hard && (D.hards (t.2.map bxD) && true)) = true
  rw [boxes_hard]
  rfl
theorem hards_map {α : Type} {f : α → D} (h : ∀ x, (f x).hard = true) : ∀ xs : List α, D.hards (xs.map f) = true
  | [] => rfl
  | x :: xs => by
    show ((f x).hard && D.hards (xs.map f)) = true
    rw [h x, hards_map h xs]
    rfl
theorem sm_hard (s : Sm) : (smD s).hard = true := hards_map tm_hard s
theorem rl_hard (r : Rl) : (rlD r).hard = true := hards_map sm_hard r
theorem rd_hard (r : Rd) : (rdD r).hard = true := by
  show (D.hards (r.1.map D.int) && (D.hards (r.2.map rlD) && true)) = true
  rw [ints_hard, hards_map rl_hard]
  rfl
/-! ### what is amiss -/
def cntAt (cs : List Int) (n : Int) : Int := cs.getD n.toNat 0
def boxOk (cs : List Int) (p : Int × Option Int) : Bool := match p.2 with
  | none => true
  | some b => decide (0 ≤ b ∧ b < cntAt cs p.1)
def dueTm (cs ps : List Int) (t : Tm) : Option Str :=
  if 0 < t.1.2 ∧ Int.gcd t.1.1 t.1.2 = 1 then
    if t.2.length = ps.length then
      if (ps.zip t.2).all (boxOk cs) = true then none else some "box"
    else some "parts"
  else some "number"
def dueTms (cs ps : List Int) : List Tm → Option Str
  | [] => none
  | t :: ts => (dueTm cs ps t).or (dueTms cs ps ts)
def dueSms (cs ps : List Int) : List Sm → Option Str
  | [] => none
  | s :: ss => (dueTms cs ps s).or (dueSms cs ps ss)
def dueRl (cs : List Int) (w : Wd) (e : Nat × Mk) (r : Rl) : Option Str :=
  if (r.length : Int) = cntAt cs e.1 then dueSms cs (dueOf w e) r else some "sums"
def dueRls (cs : List Int) (w : Wd) : List ((Nat × Mk) × Rl) → Option (Str × Str)
  | [] => none
  | x :: xs => ((dueRl cs w x.1 x.2).map fun s => (s, x.1.2.1)).or (dueRls cs w xs)
def cntsOk (w : Wd) (cs : List Int) : Bool := decide (cs.length = w.length) && cs.all fun c => decide (0 ≤ c ∧ c ≤ 4)
def dueRd (w : Wd) (r : Rd) : Option (Str × Str) :=
  if cntsOk w r.1 = true then
    if r.2.length = (tabFrom 0 w).length then dueRls r.1 w ((tabFrom 0 w).zip r.2) else some ("rules", "")
  else some ("counts", "")
/-! ### bounds -/
structure TmB (t : Tm) : Prop where
  boxes : t.2.length ≤ 1000
  upper : Bits 900 t.1.1
  lower : Bits 900 t.1.2
structure RdrB (r : Rd) : Prop where
  counts : r.1.length ≤ 1000
  rules : r.2.length ≤ 1000
  rule : ∀ x ∈ r.2, x.length ≤ 1000 ∧ ∀ s ∈ x, s.length ≤ 1000 ∧ ∀ t ∈ s, TmB t
theorem gcd_lowest {u l : Int} (h : 0 < l) : (fru u l = u ∧ frl u l = l) ↔ Int.gcd u l = 1 := by
  have e : fpt u l = (Int.gcd u l : Nat) := if_neg (by omega)
  have g0 : 0 < Int.gcd u l := Int.gcd_pos_of_ne_zero_right u (by omega)
  constructor
  · rintro ⟨_, h2⟩
    unfold frl at h2
    rw [e] at h2
    have d : ((Int.gcd u l : Nat) : Int) ∣ l := Int.gcd_dvd_right _ _
    have m := Int.fdiv_mul_cancel d
    rw [h2] at m
    have : l * ((Int.gcd u l : Nat) : Int) = l * 1 := by rw [m, Int.mul_one]
    have := Int.eq_of_mul_eq_mul_left (by omega) this
    omega
  · intro hg
    unfold fru frl
    rw [e, hg]
    exact ⟨Int.fdiv_one u, Int.fdiv_one l⟩
/-- told: nothing amiss, or what, of which maker -/
def ToldR (C : Addr) (H : Hp) (o : Option (Str × Str)) (q : Hp → Prop) (E : XK) : Prop := (o = none → ∀ H', Ex H H' → q H') ∧ ∀ r, o = some r → ∀ d H', Ex H H' → H' d = some (.xd [("maker", .str r.2), ("word", .str r.1)]) → E (.ref C) (some d) H'
def spNeedR (C : Addr) : Sp := fun vs H Q E => ∃ (b : Bool) (x y : V), vs = [.bl b, x, y] ∧ (b = true → Q .non H) ∧ (b = false → ∀ d H', Ex H H' → H' d = some (.xd [("maker", y), ("word", x)]) → E (.ref C) (some d) H')
def spIsFx : Sp := fun vs H Q _ => ∃ (p : Addr) (u l : Int), vs = [.ref p] ∧ H p = some (.tup [.int u, .int l]) ∧ Bits 900 u ∧ Bits 900 l ∧ ∀ H', Ex H H' → Q (.bl (decide (0 < l ∧ Int.gcd u l = 1))) H'
def spLookTm (C : Addr) : Sp := fun vs H Q E => ∃ (c p : Addr) (cs ps : List Int) (t : Tm) (v : V) (s : Str), vs = [.ref c, .ref p, v, .str s] ∧ H c = some (.tup (cs.map V.int)) ∧ H p = some (.tup (ps.map V.int)) ∧ Rep H (tmD t) v ∧ TmB t ∧
  ps.length ≤ 1000 ∧ (∀ x ∈ ps, 0 ≤ x ∧ x < (cs.length : Nat)) ∧ ToldR C H ((dueTm cs ps t).map fun x => (x, s)) (Q .non) E
def spLookRd (C : Addr) : Sp := fun vs H Q E => ∃ (w : Wd) (r : Rd) (wv rv : V), vs = [wv, rv] ∧ Rep H (woodD w) wv ∧ WoodOk w ∧ Rep H (rdD r) rv ∧ RdrB r ∧ ToldR C H (dueRd w r) (Q (.bl true)) E
theorem g_eqIs {K : PySem.W.Frag} {H : Hp} {Q : VK} {a b : Addr} {x y z u : Int} (ha : H a = some (.tup [.int x, .int y])) (hb : H b = some (.tup [.int z, .int u])) (q : Q (.bl (decide (x = z ∧ y = u))) H) : rEqD K (.ref a) (.ref b) H Q := by
  refine ⟨_, _, .tup (sqT ha) (.cons (.int x) (.cons (.int y) .nil)), .tup (sqT hb) (.cons (.int z) (.cons (.int u) .nil)), rfl, rfl, ?_⟩
  have e : PyData.eqv (.tuple [.int x, .int y]) (.tuple [.int z, .int u]) = decide (x = z ∧ y = u) := by
    show ((x == z) && ((y == u) && true)) = _
    by_cases c : x = z <;> by_cases d : y = u <;> simp [c, d]
  rw [e]
  exact q
theorem tab_of : ∀ {w : Wd} {n : Nat} {e : Nat × Mk}, e ∈ tabFrom n w → ∃ (i : Nat) (k : Str × List Mk), w[i]? = some k ∧ e.2 ∈ k.2 ∧ e.1 = n + i
  | [], n, e, h => nomatch h
  | k :: w, n, e, h => by
    rcases List.mem_append.1 (show e ∈ k.2.map (fun m => (n, m)) ++ tabFrom (n + 1) w from h) with h | h
    · obtain ⟨m, hm, rfl⟩ := List.mem_map.1 h
      exact ⟨0, k, rfl, hm, rfl⟩
    · obtain ⟨i, k2, h1, h2, h3⟩ := tab_of h
      exact ⟨i + 1, k2, h1, h2, by omega⟩
theorem dueOf_in {w : Wd} (ok : WoodOk w) {e : Nat × Mk} (he : e ∈ tabFrom 0 w) : e.1 < w.length ∧ (dueOf w e).length = e.2.2.length ∧ e.2.2.length ≤ 2 ∧ ∀ x ∈ dueOf w e, 0 ≤ x ∧ x < (w.length : Nat) := by
  obtain ⟨i, k, hk, hm, he1⟩ := tab_of he
  have hkm := List.mem_of_getElem? hk
  have z := ok.mkr k hkm e.2 hm
  refine ⟨?_, by unfold dueOf; rw [List.length_map], z.2.1, fun x hx => ?_⟩
  · have := (List.getElem?_eq_some_iff.1 hk).1
    omega
  · unfold dueOf at hx
    obtain ⟨s, hs, rfl⟩ := List.mem_map.1 hx
    obtain ⟨k2, hk2, e2⟩ := List.mem_map.1 (z.2.2 s hs)
    obtain ⟨j, hj⟩ := List.mem_iff_getElem?.1 hk2
    rw [← e2, kno_idx ok.knd hj]
    have := (List.getElem?_eq_some_iff.1 hj).1
    omega
theorem cnt_at {cs : List Int} {n : Int} (h0 : 0 ≤ n) (h1 : n < (cs.length : Nat)) : atI (cs.map V.int) n = some (.int (cntAt cs n)) := by
  obtain ⟨x, ex, hx⟩ := atI_ex (l := cs.map V.int) h0 (by rw [List.length_map]; exact h1)
  rw [ex]
  rw [List.getElem?_map] at hx
  unfold cntAt
  rw [List.getD_eq_getElem?_getD]
  cases c : cs[n.toNat]? with
  | none => rw [c] at hx; cases hx
  | some y => rw [c] at hx; cases hx; rfl
/-! ### readers that are drawn -/
theorem decInt {a b : Int} : decide (V.int a = V.int b) = decide (a = b) := by
  by_cases c : a = b
  · rw [c, decide_eq_true rfl, decide_eq_true rfl]
  · rw [decide_eq_false c, decide_eq_false fun z => c (V.int.inj z)]
theorem zip_at {α β : Type} {as : List α} {bs : List β} {i : Nat} {a : α} {b : β} (ha : as[i]? = some a) (hb : bs[i]? = some b) : (as.zip bs)[i]? = some (a, b) := List.getElem?_zip_eq_some.2 ⟨ha, hb⟩
theorem g_callN {n m : Nat} {sp : Sp} {gV : List V → List V → List V} {E : XK} {t tk : TA} {σ : L2.St} {H : Hp} {Q : VK} (h : t σ H fun vs H1 => tk σ H1 fun zs H2 => vs.length = n ∧ zs.length = m ∧ sp (gV vs zs) H2 Q E) : tCallN n m sp gV E t tk σ H Q := h
def FxOk (f : Fx) : Prop := 0 < f.2 ∧ Int.gcd f.1 f.2 = 1 ∧ f.1.natAbs ≤ 1000 ∧ f.2 ≤ 100
def spGcdP : Sp := fun vs H Q _ => ∃ a b : Int, vs = [.int a, .int b] ∧ 0 ≤ a ∧ 0 ≤ b ∧ Q (.int (Int.gcd a b : Nat)) H
def spFx : Sp := fun vs H Q _ => ∃ p : Addr, vs = [.ref p] ∧ Box H p ∧ ∀ (q : Addr) (f : Fx) (H' : Hp), H' q = some (.tup [.int f.1, .int f.2]) → FxOk f → But p H H' → Box H' p → Q (.ref q) H'
structure TmOk (cs ps : List Int) (t : Tm) : Prop where
  num : FxOk t.1
  len : t.2.length = ps.length
  box : (ps.zip t.2).all (boxOk cs) = true
structure RdOk (w : Wd) (r : Rd) : Prop where
  counts : r.1.length = w.length
  count : ∀ c ∈ r.1, 0 ≤ c ∧ c ≤ 4
  rules : r.2.length = (tabFrom 0 w).length
  rule : ∀ (j : Nat) (e : Nat × Mk) (x : Rl), (tabFrom 0 w)[j]? = some e → r.2[j]? = some x → (x.length : Int) = cntAt r.1 e.1 ∧ ∀ s ∈ x, s.length ≤ 6 ∧ ∀ t ∈ s, TmOk r.1 (dueOf w e) t
def spReader : Sp := fun vs H Q _ => ∃ (p : Addr) (w : Wd) (v : V), vs = [.ref p, v] ∧ Box H p ∧ Rep H (woodD w) v ∧ WoodOk w ∧ ∀ (r : Rd) (rv : V) (H' : Hp), RdOk w r → Rep H' (rdD r) rv → But p H H' → Box H' p → Q rv H'
theorem fx_low {u l : Int} (h : 0 < l) : 0 < l.fdiv ((Int.gcd u l : Nat) : Int) ∧ Int.gcd (u.fdiv ((Int.gcd u l : Nat) : Int)) (l.fdiv ((Int.gcd u l : Nat) : Int)) = 1 ∧ (u.fdiv ((Int.gcd u l : Nat) : Int)).natAbs ≤ u.natAbs ∧ l.fdiv ((Int.gcd u l : Nat) : Int) ≤ l := by
  have g0 : 0 < Int.gcd u l := Int.gcd_pos_of_ne_zero_right u (by omega)
  have g1 : ((Int.gcd u l : Nat) : Int) ≠ 0 := by omega
  have d1 : ((Int.gcd u l : Nat) : Int) ∣ u := Int.gcd_dvd_left _ _
  have d2 : ((Int.gcd u l : Nat) : Int) ∣ l := Int.gcd_dvd_right _ _
  have m1 := Int.fdiv_mul_cancel d1
  have m2 := Int.fdiv_mul_cancel d2
  have p2 : 0 < l.fdiv ((Int.gcd u l : Nat) : Int) := by
    refine Int.pos_of_mul_pos_left ?_ (by omega : (0 : Int) < ((Int.gcd u l : Nat) : Int))
    rw [m2]
    exact h
  refine ⟨p2, ?_, fdiv_le g1 d1, ?_⟩
  · have := Int.gcd_mul_right (u.fdiv ((Int.gcd u l : Nat) : Int)) ((Int.gcd u l : Nat) : Int) (l.fdiv ((Int.gcd u l : Nat) : Int))
    rw [m1, m2] at this
    rw [Int.natAbs_natCast] at this
    have e : Int.gcd (u.fdiv ((Int.gcd u l : Nat) : Int)) (l.fdiv ((Int.gcd u l : Nat) : Int)) * Int.gcd u l = 1 * Int.gcd u l := by omega
    exact Nat.eq_of_mul_eq_mul_right g0 e
  · have := fdiv_le g1 d2
    omega
theorem gcd_abs (u l : Int) : Int.gcd l (u.natAbs : Nat) = Int.gcd u l := by
  unfold Int.gcd
  rw [Int.natAbs_natCast, Nat.gcd_comm]
/-! ### readers spoilt -/
theorem cutV_len {xs : List V} {i : Int} (h0 : 0 ≤ i) : (cutV xs none (some i)).length = min i.toNat xs.length ∧ (cutV xs (some i) none).length = xs.length - i.toNat := by
  unfold cutV
  have e : i = ((i.toNat : Nat) : Int) := by omega
  rw [e, HT.sIx_nat, HT.sIx_none, HT.sIx_none, HT.sIx_nat]
  constructor
  · rw [List.length_take, List.length_drop]
    simp
    try omega
  · rw [List.length_take, List.length_drop]
    simp
    try omega
end Bk
set_option Elab.async false
set_option linter.all false
set_option maxRecDepth 100000
set_option maxHeartbeats 4000000
/-! Bk28: readers spoilt, within bounds. -/
namespace Bk
open PySem PySem.Spec PyProof.Rows L2
def TmN (n : Nat) (t : Tm) : Prop := t.2.length ≤ 2 + n ∧ Bits 20 t.1.1 ∧ Bits 20 t.1.2
def SmN (n : Nat) (s : Sm) : Prop := s.length ≤ 6 + n ∧ ∀ t ∈ s, TmN n t
def RlN (n : Nat) (x : Rl) : Prop := x.length ≤ 4 + n ∧ ∀ s ∈ x, SmN n s
structure RdN (n : Nat) (r : Rd) : Prop where
  counts : r.1.length ≤ 4 + n
  rules : r.2.length ≤ 12 + n
  rule : ∀ x ∈ r.2, RlN n x
theorem TmN.le {n m : Nat} {t : Tm} (h : TmN n t) (hm : n ≤ m) : TmN m t := ⟨by have := h.1; omega, h.2⟩
theorem SmN.le {n m : Nat} {s : Sm} (h : SmN n s) (hm : n ≤ m) : SmN m s := ⟨by have := h.1; omega, fun t ht => (h.2 t ht).le hm⟩
theorem RlN.le {n m : Nat} {x : Rl} (h : RlN n x) (hm : n ≤ m) : RlN m x := ⟨by have := h.1; omega, fun s hs => (h.2 s hs).le hm⟩
theorem RdN.le {n m : Nat} {r : Rd} (h : RdN n r) (hm : n ≤ m) : RdN m r := ⟨by have := h.counts; omega, by have := h.rules; omega, fun x hx => (h.rule x hx).le hm⟩
theorem RdN.bnd {n : Nat} {r : Rd} (h : RdN n r) (hn : n ≤ 500) : RdrB r := ⟨by have := h.counts; omega, by have := h.rules; omega, fun x hx => ⟨by have := (h.rule x hx).1; omega, fun s hs => ⟨by have := ((h.rule x hx).2 s hs).1; omega, fun t ht => by
  have z := ((h.rule x hx).2 s hs).2 t ht
  exact ⟨by have := z.1; omega, z.2.1.le, z.2.2.le⟩⟩⟩⟩
theorem RdOk.n0 {w : Wd} (ok : WoodOk w) {r : Rd} (h : RdOk w r) : RdN 0 r := by
  refine ⟨by have := h.counts; have := ok.kinds; omega, by have := h.rules; have := ok.many; omega, fun x hx => ?_⟩
  obtain ⟨j, hj⟩ := List.mem_iff_getElem?.1 hx
  have hl := (List.getElem?_eq_some_iff.1 hj).1
  rw [h.rules] at hl
  have he := List.getElem?_eq_getElem hl
  obtain ⟨h1, h2⟩ := h.rule j _ x he hj
  obtain ⟨ek, dl, d2, din⟩ := dueOf_in ok (List.getElem_mem hl)
  have hc : cntAt r.1 ((tabFrom 0 w)[j]).1 ≤ 4 := by
    unfold cntAt
    rw [List.getD_eq_getElem?_getD]
    have hl2 : (((tabFrom 0 w)[j]).1 : Int).toNat < r.1.length := by
      rw [h.counts]
      omega
    rw [List.getElem?_eq_getElem hl2]
    exact (h.count _ (List.getElem_mem hl2)).2
  refine ⟨by omega, fun s hs => ⟨(h2 s hs).1, fun t ht => ?_⟩⟩
  have z := (h2 s hs).2 t ht
  refine ⟨by rw [z.len, dl]; omega, ?_, ?_⟩
  · exact Nat.lt_of_le_of_lt z.num.2.2.1 (by decide)
  · have := z.num
    have e : t.1.2.natAbs ≤ 100 := by
      have := this.1
      have := this
      have := z.num.2.2.2
      omega
    exact Nat.lt_of_le_of_lt e (by decide)
theorem map_of {α : Type} {f : α → V} : ∀ {ys : List V}, (∀ y ∈ ys, ∃ a, y = f a) → ∃ as : List α, ys = as.map f ∧ as.length = ys.length
  | [], _ => ⟨[], rfl, rfl⟩
  | y :: ys, h => by
    obtain ⟨a, rfl⟩ := h y List.mem_cons_self
    obtain ⟨as, rfl, e⟩ := map_of (ys := ys) fun z hz => h z (List.mem_cons_of_mem _ hz)
    exact ⟨a :: as, rfl, by rw [List.length_cons, List.length_cons, e]⟩
theorem dpok_box {K : PySem.W.Frag} {H : Hp} {b : Option Int} {k : Nat} : DpOk K H (bxV b) k := by
  cases b with
  | none => exact ⟨.none, .non, rfl, Nat.zero_le _⟩
  | some i => exact dpok_int
theorem tm_dp {K : PySem.W.Frag} {H : Hp} {t : Tm} {v : V} {k : Nat} (r : Rep H (tmD t) v) : DpOk K H v (k + 2) := by
  obtain ⟨a, p, q, rfl, ha, hp, hq⟩ := tm_at r
  refine dpok_tup ha fun x hx => ?_
  rcases List.mem_cons.1 hx with rfl | hx
  · refine dpok_tup hp fun y hy => ?_
    rcases List.mem_cons.1 hy with rfl | hy
    · exact dpok_int
    · rw [List.mem_singleton.1 hy]
      exact dpok_int
  · rw [List.mem_singleton.1 hx]
    refine dpok_tup hq fun y hy => ?_
    obtain ⟨b, _, rfl⟩ := List.mem_map.1 hy
    exact dpok_box
theorem dp_reps {α : Type} {K : PySem.W.Frag} {H : Hp} {f : α → D} {k : Nat} {as : List α} {xs : List V} (h : ∀ a v, Rep H (f a) v → DpOk K H v k) (r : Reps H (as.map f) xs) : ∀ x ∈ xs, DpOk K H x k := fun x hx => by
  obtain ⟨j, hj⟩ := List.mem_iff_getElem?.1 hx
  obtain ⟨d, hd, rd⟩ := r.get hj
  rw [List.getElem?_map] at hd
  cases e : as[j]? with
  | none => rw [e] at hd; cases hd
  | some a =>
    rw [e] at hd
    cases hd
    exact h a x rd
theorem Box.tkne {H H' : Hp} {p a : Addr} {xs : List V} (b : Box H' p) (e : Ex H H') (h : H a = some (.tup xs)) : a ≠ p := fun z => by
  obtain ⟨_, _, _, hp⟩ := b
  rw [z] at h
  have := e _ _ h
  rw [hp] at this
  cases this
/-! ### what stands while a box is drawn from -/
def Kp (p : Addr) (H H' : Hp) : Prop := But p H H' ∧ Box H' p ∧ Tk H H'
theorem Kp.refl {p : Addr} {H : Hp} (h : Box H p) : Kp p H H := ⟨But.refl _ _, h, Tk.refl _⟩
theorem Kp.but {p : Addr} {H H1 H2 : Hp} (k : Kp p H H1) (b : But p H1 H2) (hb : Box H2 p) : Kp p H H2 := ⟨k.1.trans b, hb, k.2.2.trans (k.2.1.tk b)⟩
theorem Kp.ex {p : Addr} {H H1 H2 : Hp} (k : Kp p H H1) (e : Ex H1 H2) : Kp p H H2 := k.but (e.but p) (k.2.1.ex e)
theorem Kp.new {p a : Addr} {H H1 : Hp} {o : HO} (k : Kp p H H1) (h : H1 a = none) : Kp p H (upd H1 a o) := k.ex (Ex.new h)
theorem Kp.trans {p : Addr} {H H1 H2 : Hp} (k : Kp p H H1) (k2 : Kp p H1 H2) : Kp p H H2 := k.but k2.1 k2.2.1
theorem Reps.tkm {α : Type} {f : α → D} {H H' : Hp} {as : List α} {xs : List V} (t : Tk H H') (hf : ∀ a, (f a).hard = true) (r : Reps H (as.map f) xs) : Reps H' (as.map f) xs := Reps.tk t (hards_map hf as) r
theorem Kp.put {p a : Addr} {H H1 : Hp} {xs ys : List V} (k : Kp p H H1) (h : H a = none) (n : a ≠ p) (hl : H1 a = some (.lst xs)) : Kp p H (upd H1 a (.lst ys)) := ⟨k.1.at_new h, k.2.1.at_upd n, k.2.2.trans (((But.refl a H1).upd).tkl hl)⟩
theorem Kp.free {p a : Addr} {H H1 : Hp} (k : Kp p H H1) (h : H1 a = none) : H a = none := by
  have n := k.2.1.ne h
  cases e : H a with
  | none => rfl
  | some o =>
    have := k.1 a o n e
    rw [h] at this
    cases this
theorem Kp.ne {p a : Addr} {H H1 : Hp} (k : Kp p H H1) (h : H1 a = none) : a ≠ p := k.2.1.ne h
theorem bxV_inj {a b : Option Int} (h : bxV a = bxV b) : a = b := by
  cases a with
  | none =>
    cases b with
    | none => rfl
    | some y => cases h
  | some x =>
    cases b with
    | none => cases h
    | some y =>
      injection h with h
      rw [h]
theorem reps_snoc {α : Type} {f : α → D} {H : Hp} {as : List α} {xs : List V} {a : α} {v : V} (r : Reps H (as.map f) xs) (h : Rep H (f a) v) : Reps H ((as ++ [a]).map f) (xs ++ [v]) := by
  rw [List.map_append]
  exact Reps.append r ⟨v, [], rfl, h, by simp only [List.map, Reps]⟩
theorem tk_put {H : Hp} {a : Addr} {xs ys : List V} (hl : H a = some (.lst xs)) : Tk H (upd H a (.lst ys)) := ((But.refl a H).upd).tkl hl
/-! ### what is told is text -/
end Bk
set_option Elab.async false
set_option linter.all false
set_option maxRecDepth 100000
set_option maxHeartbeats 4000000
/-! Bk29: fractions added and multiplied, how great they become. -/
namespace Bk
open PySem PySem.Spec PyProof.Rows L2
theorem gcdFmod (x y : Int) : Int.gcd y (x.fmod y) = Int.gcd x y := by
  have e : x.fmod y = x - x.fdiv y * y := by
    have := Int.fmod_add_mul_fdiv x y
    rw [Int.mul_comm] at this
    omega
  rw [e, Int.gcd_comm x y, Int.gcd_sub_mul_right_right]
theorem fmodLess {x y : Int} (h : y ≠ 0) : (x.fmod y).natAbs < y.natAbs := by
  by_cases c : 0 < y
  · have a1 := Int.fmod_nonneg_of_pos x c
    have a2 := Int.fmod_lt_of_pos x c
    omega
  · have a1 := Int.fmod_nonneg_of_pos (-x) (b := -y) (by omega)
    have a2 := Int.fmod_lt_of_pos (-x) (b := -y) (by omega)
    rw [Int.neg_fmod_neg] at a1 a2
    omega
/-- the lower number goes into N, the worth is at most A -/
structure Szf (A N : Nat) (f : Fx) : Prop where
  pos : 0 < f.2
  dvd : f.2.natAbs ∣ N
  le : f.1.natAbs ≤ A * f.2.natAbs
def lowF (u l : Int) : Fx := (fru u l, frl u l)
def mulF (f g : Fx) : Fx := lowF (f.1 * g.1) (f.2 * g.2)
def addF (f g : Fx) : Fx := lowF (f.1 * g.2 + g.1 * f.2) (f.2 * g.2)
theorem Szf.mono {A B N M : Nat} {f : Fx} (h : Szf A N f) (ha : A ≤ B) (hn : N ∣ M) : Szf B M f := ⟨h.pos, Nat.dvd_trans h.dvd hn, Nat.le_trans h.le (Nat.mul_le_mul_right _ ha)⟩
theorem Szf.bits {A N n m : Nat} {f : Fx} (h : Szf A N f) (hN : N < 2 ^ n) (hA : A < 2 ^ m) (h0 : 0 < N) : Bits n f.2 ∧ Bits (m + n) f.1 := by
  have l2 : f.2.natAbs ≤ N := Nat.le_of_dvd h0 h.dvd
  refine ⟨Nat.lt_of_le_of_lt l2 hN, ?_⟩
  show f.1.natAbs < 2 ^ (m + n)
  refine Nat.lt_of_le_of_lt h.le ?_
  rw [Nat.pow_add]
  refine Nat.lt_of_le_of_lt (Nat.mul_le_mul_left _ l2) ?_
  exact Nat.mul_lt_mul'' hA hN
def stepF (f : Fx) (x : List Fx × Option Int) : Fx := match x.2 with
  | none => f
  | some i => mulF f (x.1.getD i.toNat (0, 1))
def prodF (f : Fx) (l : List (List Fx × Option Int)) : Fx := l.foldl stepF f
def plusF (parts : List (List Fx)) (f : Fx) (t : Tm) : Fx := addF f (prodF t.1 (parts.zip t.2))
def sumF (parts : List (List Fx)) (s : Sm) : Fx := s.foldl (plusF parts) (0, 1)
def madeF (parts : List (List Fx)) (r : Rl) : List Fx := r.map (sumF parts)
/-- a sum's terms fit: as many boxes as parts, each there, no product too great -/
structure FitS (A N : Nat) (parts : List (List Fx)) (s : Sm) : Prop where
  many : s.length ≤ 6
  term : ∀ t ∈ s, t.2.length = parts.length ∧ (∀ (j : Nat) (p : List Fx) (i : Int), parts[j]? = some p → t.2[j]? = some (some i) → 0 ≤ i ∧ i < (p.length : Nat)) ∧ ∀ j, Szf A N (prodF t.1 ((parts.zip t.2).take j))
structure FitP (A N : Nat) (parts : List (List Fx)) : Prop where
  nat : 0 < N
  lower : N < 2 ^ 4200
  upper : 6 * A < 2 ^ 1000
  part : ∀ p ∈ parts, ∀ f ∈ p, Szf A N f
theorem FitP.num {A N : Nat} {parts : List (List Fx)} (h : FitP A N parts) {B : Nat} {f : Fx} (hB : B ≤ 6 * A) (s : Szf B N f) : 0 < f.2 ∧ Bits 6000 f.1 ∧ Bits 4400 f.2 := by
  have z := s.bits h.lower (Nat.lt_of_le_of_lt hB h.upper) h.nat
  exact ⟨s.pos, z.2.le, z.1.le⟩
end Bk
set_option Elab.async false
set_option linter.all false
set_option maxRecDepth 100000
set_option maxHeartbeats 4000000
/-! Bk30: zip(a, b, c) of lists and tuples of one length. -/
namespace Bk
open PySem PySem.Spec PyProof.Rows L2
end Bk
set_option Elab.async false
set_option linter.all false
set_option maxRecDepth 100000
set_option maxHeartbeats 4000000
/-! Bk31: readers as deeds. -/
namespace Bk
open PySem PySem.Spec PyProof.Rows L2
inductive Dd where
  | put (f : Fx) | take (p : Nat) (b : Int) | times | plus
/-! ### contracts -/
theorem reps_app {α : Type} {f : α → D} {H : Hp} {as bs : List α} {xs ys : List V} (r : Reps H (as.map f) xs) (s : Reps H (bs.map f) ys) : Reps H ((as ++ bs).map f) (xs ++ ys) := by
  rw [List.map_append]
  exact Reps.append r s
theorem reps_one {α : Type} {f : α → D} {H : Hp} {a : α} {v : V} (h : Rep H (f a) v) : Reps H ([a].map f) [v] := ⟨v, [], rfl, h, by simp only [List.map, Reps]⟩
theorem rep01 {u : V} (b : Bool) : ∃ k : Int, b2z b = k ∧ 0 ≤ k ∧ k ≤ 1 ∧ (List.replicate k.toNat [u]).flatten = if b = true then [u] else [] := by
  cases b with
  | true => exact ⟨1, rfl, by decide, by decide, rfl⟩
  | false => exact ⟨0, rfl, by decide, by decide, rfl⟩
theorem g_rep01 {H : Hp} {Q : VK} {l : Addr} {u : V} {b : Bool} (hl : H l = some (.lst [u])) (q : ∀ p, H p = none → Q (.ref p) (upd H p (.lst (if b = true then [u] else [])))) : rRep (.ref l) (.int (b2z b)) H Q := by
  obtain ⟨k, ek, k0, k1, er⟩ := rep01 (u := u) b
  rw [ek]
  refine ⟨l, k, _, rfl, rfl, hl, by omega, by omega, Nat.le_trans (show 1 * k.toNat ≤ 1 by omega) (by decide), fun p hp => ?_⟩
  rw [er]
  exact q p hp
end Bk
set_option Elab.async false
set_option linter.all false
set_option maxRecDepth 100000
set_option maxHeartbeats 4000000
/-! Bk32: deeds done on a bench. -/
namespace Bk
open PySem PySem.Spec PyProof.Rows L2
def NumOk (f : Fx) : Prop := 0 < f.2 ∧ Bits 6000 f.1 ∧ Bits 4400 f.2
def Run (parts : List (List Fx)) : List Fx → List Dd → List Fx → Prop
  | st, [], fin => st = fin
  | st, .put f :: ds, fin => Run parts (f :: st) ds fin
  | st, .take p i :: ds, fin => ∃ pl, parts[p]? = some pl ∧ 0 ≤ i ∧ i < (pl.length : Nat) ∧ Run parts (pl.getD i.toNat (0, 1) :: st) ds fin
  | st, .times :: ds, fin => ∃ x y r, st = x :: y :: r ∧ NumOk x ∧ NumOk y ∧ Run parts (mulF x y :: r) ds fin
  | st, .plus :: ds, fin => ∃ x y r, st = x :: y :: r ∧ NumOk x ∧ NumOk y ∧ Run parts (addF x y :: r) ds fin
theorem Run.app {parts : List (List Fx)} {b : List Dd} {s1 fin : List Fx} : ∀ {a : List Dd} {st : List Fx}, Run parts st a s1 → Run parts s1 b fin → Run parts st (a ++ b) fin
  | [], st, h, k => by
    have e : st = s1 := h
    subst e
    exact k
  | .put f :: a, st, h, k => Run.app (a := a) (show Run parts (f :: st) a s1 from h) k
  | .take p i :: a, st, h, k => by
    obtain ⟨pl, h1, h2, h3, h4⟩ := h
    exact ⟨pl, h1, h2, h3, Run.app h4 k⟩
  | .times :: a, st, h, k => by
    obtain ⟨x, y, r, h1, h2, h3, h4⟩ := h
    exact ⟨x, y, r, h1, h2, h3, Run.app h4 k⟩
  | .plus :: a, st, h, k => by
    obtain ⟨x, y, r, h1, h2, h3, h4⟩ := h
    exact ⟨x, y, r, h1, h2, h3, Run.app h4 k⟩
def LowF (f : Fx) : Prop := 0 < f.2 ∧ Int.gcd f.1 f.2 = 1
/-! ### the same fractions compared -/
end Bk
set_option Elab.async false
set_option linter.all false
set_option maxRecDepth 100000
set_option maxHeartbeats 4000000
/-! Bk33: small fractions in boxes; readers told as deeds. -/
namespace Bk
open PySem PySem.Spec PyProof.Rows L2
theorem FxOk.low {f : Fx} (h : FxOk f) : LowF f := ⟨h.1, h.2.1⟩
/-- a box, a wood, a reader asked about -/
def AskedAt (H : Hp) (x : V) : Prop := ∃ (a p : Addr) (w : Wd) (r : Rd) (wv rv : V), x = .ref a ∧ H a = some (.tup [.ref p, wv, rv]) ∧ Box H p ∧ Rep H (woodD w) wv ∧ WoodOk w ∧ Rep H (rdD r) rv ∧ RdOk w r
theorem AskedAt.ex {H H' : Hp} {x : V} (h : AskedAt H x) (e : Ex H H') : AskedAt H' x := by
  obtain ⟨a, p, w, r, wv, rv, h1, h2, h3, h4, h5, h6, h7⟩ := h
  exact ⟨a, p, w, r, wv, rv, h1, e _ _ h2, h3.ex e, h4.ex e, h5, h6.ex e, h7⟩
theorem AskedAt.kp {H H' : Hp} {x : V} {q : Addr} (h : AskedAt H x) (k : Kp q H H') : AskedAt H' x := by
  obtain ⟨a, p, w, r, wv, rv, h1, h2, h3, h4, h5, h6, h7⟩ := h
  refine ⟨a, p, w, r, wv, rv, h1, k.2.2 _ _ h2, ?_, h4.tk k.2.2 (wood_hard w), h5, h6.tk k.2.2 (rd_hard r), h7⟩
  by_cases c : p = q
  · subst c
    exact k.2.1
  · exact h3.but k.1 c
theorem Box.neL {H : Hp} {p a : Addr} {xs : List V} (b : Box H p) (h : H a = some (.lst xs)) (hx : ∀ x ∈ xs, ∀ n : Int, x ≠ .int n) : a ≠ p := fun z => by
  obtain ⟨u, v, w, hp⟩ := b
  rw [z, hp] at h
  cases h
  exact hx _ List.mem_cons_self u rfl
theorem AskedAt.put {H : Hp} {x : V} {l : Addr} {xs ys : List V} (h : AskedAt H x) (hl : H l = some (.lst xs)) (hx : ∀ x ∈ xs, ∀ n : Int, x ≠ .int n) : AskedAt (upd H l (.lst ys)) x := by
  obtain ⟨a, p, w, r, wv, rv, h1, h2, h3, h4, h5, h6, h7⟩ := h
  have t := tk_put (ys := ys) hl
  exact ⟨a, p, w, r, wv, rv, h1, t _ _ h2, h3.at_upd (h3.neL hl hx), h4.tk t (wood_hard w), h5, h6.tk t (rd_hard r), h7⟩
end Bk
set_option Elab.async false
set_option linter.all false
set_option maxRecDepth 100000
set_option maxHeartbeats 4000000
/-! Bk34: trees read by readers. -/
namespace Bk
open PySem PySem.Spec PyProof.Rows L2
/-! ### a tree's rows, one after the other -/
def ruleOf (w : Wd) (r : Rd) (s : Str) : Rl := match ((tabFrom 0 w).zip r.2).find? (fun x => decide (x.1.2.1 = s)) with
  | some x => x.2
  | none => []
def partsF (acc : List (List Fx)) (ns : List Int) : List (List Fx) := ns.map fun n => acc.getD n.toNat []
def rowF (w : Wd) (r : Rd) (acc : List (List Fx)) (row : Str × List Int) : List Fx := madeF (partsF acc row.2) (ruleOf w r row.1)
def readF (w : Wd) (r : Rd) (t : Tr) : List (List Fx) := t.foldl (fun acc row => acc ++ [rowF w r acc row]) []
structure RowFit (w : Wd) (r : Rd) (acc : List (List Fx)) (row : Str × List Int) : Prop where
  made : ∃ (j : Nat) (e : Nat × Mk), (tabFrom 0 w)[j]? = some e ∧ e.2.1 = row.1 ∧ r.2[j]? = some (ruleOf w r row.1)
  idx : ∀ n ∈ row.2, 0 ≤ n ∧ n < (acc.length : Nat)
  two : row.2.length ≤ 2
  rule : (ruleOf w r row.1).length ≤ 10
  fits : ∃ A N, FitP A N (partsF acc row.2) ∧ ∀ s ∈ ruleOf w r row.1, FitS A N (partsF acc row.2) s
def TreeFit (w : Wd) (r : Rd) (t : Tr) : Prop := ∀ (i : Nat) (row : Str × List Int), t[i]? = some row → RowFit w r (readF w r (t.take i)) row
/-! ### how great the rows' trees are -/
structure SzsOk (size : Int) (t : Tr) (szs : List Int) : Prop where
  le : ∀ s ∈ szs, 1 ≤ s ∧ s ≤ size
  row : ∀ (j : Nat) (r : Str × List Int), t[j]? = some r → szs[j]? = some (1 + (r.2.map fun n => szs.getD n.toNat 0).sum) ∧ ∀ n ∈ r.2, 0 ≤ n ∧ n < (j : Int)
theorem SzsOk.nil {size : Int} : SzsOk size [] [] := ⟨fun s h => (nomatch h), fun j r h => by simp at h⟩
theorem sum_nonneg : ∀ {l : List Int}, (∀ x ∈ l, 0 ≤ x) → 0 ≤ l.sum
  | [], _ => Int.le_refl _
  | x :: l, h => by
    have a := h x List.mem_cons_self
    have b := sum_nonneg (l := l) fun y hy => h y (List.mem_cons_of_mem _ hy)
    rw [List.sum_cons]
    omega
theorem SzsOk.app {size m : Int} {t : Tr} {szs : List Int} {r : Str × List Int} (h : SzsOk size t szs) (hl : szs.length = t.length) (hm : m ≤ size) (em : m = 1 + (r.2.map fun n => szs.getD n.toNat 0).sum) (hr : ∀ n ∈ r.2, 0 ≤ n ∧ n < (t.length : Int)) : SzsOk size (t ++ [r]) (szs ++ [m]) := by
  have old : ∀ (ns : List Int) (j : Nat), j ≤ t.length → (∀ n ∈ ns, 0 ≤ n ∧ n < (j : Int)) → (ns.map fun n => (szs ++ [m]).getD n.toNat 0) = ns.map fun n => szs.getD n.toNat 0 := fun ns j hj hn => by
    refine List.map_congr_left fun n h' => ?_
    have := hn n h'
    rw [List.getD_eq_getElem?_getD, List.getD_eq_getElem?_getD, List.getElem?_append_left (by omega)]
  have pos : 0 ≤ (r.2.map fun n => szs.getD n.toNat 0).sum := sum_nonneg fun x hx => by
    obtain ⟨n, hn, rfl⟩ := List.mem_map.1 hx
    have := hr n hn
    rw [List.getD_eq_getElem?_getD, List.getElem?_eq_getElem (by omega)]
    have := (h.le _ (List.getElem_mem (show n.toNat < szs.length by omega))).1
    exact Int.le_trans (by decide) this
  refine ⟨fun s hs => ?_, fun j q hq => ?_⟩
  · rcases List.mem_append.1 hs with hs | hs
    · exact h.le s hs
    · rw [List.mem_singleton.1 hs]
      omega
  · rcases Nat.lt_or_ge j t.length with c | c
    · rw [List.getElem?_append_left c] at hq
      obtain ⟨a, b⟩ := h.row j q hq
      refine ⟨?_, b⟩
      rw [old q.2 j (Nat.le_of_lt c) b, List.getElem?_append_left (by omega)]
      exact a
    · rw [List.getElem?_append_right c] at hq
      have ej : j = t.length := by
        have := (List.getElem?_eq_some_iff.1 hq).1
        rw [List.length_singleton] at this
        omega
      subst ej
      rw [Nat.sub_self] at hq
      cases hq
      refine ⟨?_, hr⟩
      rw [old r.2 t.length (Nat.le_refl _) hr, List.getElem?_append_right (by omega), hl, Nat.sub_self, em]
      rfl
end Bk
set_option Elab.async false
set_option linter.all false
set_option maxRecDepth 100000
set_option maxHeartbeats 4000000
/-! Bk35: how great the fractions in a tree's boxes become. -/
namespace Bk
open PySem PySem.Spec PyProof.Rows L2
structure PartsAt (w : Wd) (r : Rd) (t : Tr) (i : Nat) (row : Str × List Int) (j : Nat) (e : Nat × Mk) : Prop where
  tab : (tabFrom 0 w)[j]? = some e
  nm : e.2.1 = row.1
  len : row.2.length = (dueOf w e).length
  two : row.2.length ≤ 2
  idx : ∀ (u : Nat) (n : Int), row.2[u]? = some n → 0 ≤ n ∧ n < (i : Int) ∧ ∃ q, t[n.toNat]? = some q ∧ (dueOf w e)[u]? = some (kindAt w q.1)
  kind : kindAt w row.1 = (e.1 : Nat)
/-! ### small whole numbers, one box in a term -/
end Bk
set_option Elab.async false
set_option linter.all false
set_option maxRecDepth 100000
set_option maxHeartbeats 4000000
/-! Bk36: thin readers; what k15 asks about. -/
namespace Bk
open PySem PySem.Spec PyProof.Rows L2
def AskedT (H : Hp) (x : V) : Prop := ∃ (a : Addr) (w : Wd) (r : Rd) (t : Tr) (wv rv tv : V), x = .ref a ∧ H a = some (.tup [wv, rv, tv]) ∧ Rep H (woodD w) wv ∧ WoodOk w ∧ Rep H (rdD r) rv ∧ RdOk w r ∧ Rep H (treeD t) tv ∧ t.length ≤ 60 ∧ t ≠ [] ∧ TreeFit w r t
theorem AskedT.tk {H H' : Hp} {x : V} (h : AskedT H x) (e : Tk H H') : AskedT H' x := by
  obtain ⟨a, w, r, t, wv, rv, tv, h1, h2, h3, h4, h5, h6, h7, h8⟩ := h
  exact ⟨a, w, r, t, wv, rv, tv, h1, e _ _ h2, h3.tk e (wood_hard w), h4, h5.tk e (rd_hard r), h6, h7.tk e (tree_hard t), h8⟩
end Bk
set_option Elab.async false
set_option linter.all false
set_option maxRecDepth 100000
set_option maxHeartbeats 4000000
/-! Bk37: names drawn, alike but at one place (the later laws' names). -/
namespace Bk
open PySem PySem.Spec PyProof.Rows L2
end Bk
set_option Elab.async false
set_option linter.all false
set_option maxRecDepth 100000
set_option maxHeartbeats 4000000
/-! Bk38: dicts whose keys are (text, (whole numbers)). -/
namespace Bk
open PySem PySem.Spec PyProof.Rows L2
/-- a mark: a name and whole numbers -/
abbrev Mark := Str × List Int
def nk (m : Mark) : NestedKey := .tup [.text m.1, .tup (m.2.map NestedKey.num)]
theorem nums_inj : ∀ {a b : List Int}, a.map NestedKey.num = b.map NestedKey.num → a = b
  | [], [], _ => rfl
  | [], _ :: _, h => nomatch h
  | _ :: _, [], h => nomatch h
  | x :: a, y :: b, h => by
    rw [List.map_cons, List.map_cons] at h
    injection h with h1 h2
    injection h1 with h1
    rw [h1, nums_inj h2]
theorem nk_inj {a b : Mark} (h : nk a = nk b) : a = b := by
  unfold nk at h
  injection h with h
  injection h with h1 h2
  injection h1 with h1
  injection h2 with h2 _
  injection h2 with h2
  exact Prod.ext h1 (nums_inj h2)
/-- the mark m stands at a -/
def MarkAt (H : Hp) (a : Addr) (m : Mark) : Prop := ∃ t, H a = some (.tup [.str m.1, .ref t]) ∧ H t = some (.tup (m.2.map V.int))
theorem MarkAt.tk {H H' : Hp} {a : Addr} {m : Mark} (t : Tk H H') (h : MarkAt H a m) : MarkAt H' a m := by
  obtain ⟨q, a1, a2⟩ := h
  exact ⟨q, t _ _ a1, t _ _ a2⟩
/-- the entries: mark, its address, what is held -/
abbrev Nx : List (Mark × Addr × V) → List (NestedKey × Addr × Value) → Prop := Paired fun p q => q.1 = nk p.1 ∧ q.2.1 = p.2.1 ∧ RelV p.2.2 q.2.2
def kvm (ps : List (Mark × Addr × V)) : List (Mark × V) := ps.map fun p => (p.1, p.2.2)
def NdO (P : Program) (w : World) (a : Addr) (ps : List (Mark × Addr × V)) : HO := .ext fun h => ps.length ≤ sizeLine ∧ (a == sysModules) = false ∧ ∃ xs, Nx ps xs ∧
  ∃ o es ep, h.get? a = some o ∧ o.ExactDict ∧ o.data = .dict es ep ∧ es.toList = xs.map (entryOfKey (nestedKind P w)) ∧ (xs.map (·.1)).Nodup
/-- the dict at a has these entries -/
def NdAt (P : Program) (w : World) (H : Hp) (a : Addr) (ps : List (Mark × Addr × V)) : Prop := (H a = some (NdO P w a ps) ∨ (ps = [] ∧ H a = some (.dK []))) ∧ ∀ p ∈ ps, MarkAt H p.2.1 p.1
section
variable {P : Program} {w : World} {H : Hp} {h : Heap} {a : Addr} {ps : List (Mark × Addr × V)}
theorem NdAt.notTup (g : NdAt P w H a ps) : ∀ b ys, H b = some (.tup ys) → b ≠ a := fun b ys e z => by
  subst z
  rcases g.1 with q | ⟨_, q⟩
  · rw [e] at q
    cases q
  · rw [e] at q
    cases q
theorem NdAt.at_some (g : NdAt P w H a ps) : H a = some ((H a).getD (.dK [])) := by
  rcases g.1 with e | ⟨_, e⟩ <;> rw [e] <;> rfl
theorem NdAt.ex {H' : Hp} (g : NdAt P w H a ps) (e : Ex H H') : H' a = H a := by
  rw [g.at_some]
  exact e _ _ g.at_some
theorem Nx.val {xs : List (NestedKey × Addr × Value)} (r : Nx ps xs) (m : Mark) : RelO (valV (kvm ps) m) ((atKey xs (nk m)).map (·.2)) := by
  induction r with
  | nil => exact True.intro
  | @cons p q ps qs h t ih =>
    obtain ⟨h1, _, h2⟩ := h
    by_cases e : p.1 = m
    · have e' : q.1 = nk m := by rw [h1, e]
      have b : atKey (q :: qs) (nk m) = some q.2 := by simp [atKey, List.find?_cons, e']
      rw [b]
      show RelO (valV ((p.1, p.2.2) :: kvm ps) m) _
      rw [valV_pos (p := (p.1, p.2.2)) e]
      exact h2
    · have e' : ¬ q.1 = nk m := fun z => e (nk_inj (h1.symm.trans z))
      have b : atKey (q :: qs) (nk m) = atKey qs (nk m) := by simp [atKey, List.find?_cons, e']
      rw [b]
      show RelO (valV ((p.1, p.2.2) :: kvm ps) m) _
      rw [valV_neg (p := (p.1, p.2.2)) e]
      exact ih
theorem Nx.len {xs : List (NestedKey × Addr × Value)} (r : Nx ps xs) : ps.length = xs.length := Paired.length r
theorem Nx.new {xs : List (NestedKey × Addr × Value)} (r : Nx ps xs) {m : Mark} (hv : valV (kvm ps) m = none) : atKey xs (nk m) = none := by
  have := r.val m
  rw [hv] at this
  cases c : atKey xs (nk m) with
  | none => rfl
  | some p =>
    rw [c] at this
    exact (this : False).elim
theorem NdAt.keep {H' : Hp} (g : NdAt P w H a ps) (ha : H' a = H a) (t : Tk H H') : NdAt P w H' a ps := ⟨by rw [ha]; exact g.1, fun p hp => (g.2 p hp).tk t⟩
/-- an entry put behind -/
theorem NdAt.snoc (g : NdAt P w H a ps) {m : Mark} {b : Addr} (hb : MarkAt H b m) (v : V) : NdAt P w (upd H a (NdO P w a (ps ++ [(m, b, v)]))) a (ps ++ [(m, b, v)]) := by
  have t : Tk H (upd H a (NdO P w a (ps ++ [(m, b, v)]))) := fun c ys e => by
    rw [upd_ne (g.notTup c ys e)]
    exact e
  refine ⟨.inl upd_same, fun p hp => ?_⟩
  rcases List.mem_append.1 hp with hp | hp
  · exact (g.2 p hp).tk t
  · rw [List.mem_singleton.1 hp]
    exact hb.tk t
end
end Bk
set_option Elab.async false
set_option linter.all false
set_option maxRecDepth 100000
set_option maxHeartbeats 4000000
/-! Bk39: printers as data, drawn. -/
namespace Bk
open PySem PySem.Spec PyProof.Rows L2
/-! ### list(text) -/
/-! ### printers -/
abbrev Itm := Str ⊕ (Int × Int)
def bdD (b : Int × Int) : D := .tup [.int b.1, .int b.2]
def itD : Itm → D
  | .inl s => .str s
  | .inr b => bdD b
theorem it_hard (i : Itm) : (itD i).hard = true := by cases i <;> rfl
/-! ### lists that are filled row by row -/
structure RowsI (H : Hp) (ras : List Addr) (R : List (List Itm)) : Prop where
  len : ras.length = R.length
  nd : ras.Nodup
  at_ : ∀ (q : Nat) (a : Addr) (r : List Itm), ras[q]? = some a → R[q]? = some r → ∃ us, H a = some (.lst us) ∧ Reps H (r.map itD) us
theorem RowsI.get {H : Hp} {ras : List Addr} {R : List (List Itm)} (h : RowsI H ras R) {q : Nat} (hq : q < R.length) : ∃ a r us, ras[q]? = some a ∧ R[q]? = some r ∧ H a = some (.lst us) ∧ Reps H (r.map itD) us := by
  have hq2 : q < ras.length := by rw [h.len]; exact hq
  obtain ⟨us, a, b⟩ := h.at_ q _ _ (List.getElem?_eq_getElem hq2) (List.getElem?_eq_getElem hq)
  exact ⟨_, _, us, List.getElem?_eq_getElem hq2, List.getElem?_eq_getElem hq, a, b⟩
theorem RowsI.keep {H H' : Hp} {ras : List Addr} {R : List (List Itm)} (h : RowsI H ras R) (t : Tk H H') (k : ∀ a ∈ ras, ∀ us, H a = some (.lst us) → H' a = some (.lst us)) : RowsI H' ras R := ⟨h.len, h.nd, fun q a r ha hr => by
  obtain ⟨us, hu, rs⟩ := h.at_ q a r ha hr
  exact ⟨us, k a (List.mem_of_getElem? ha) us hu, rs.tkm t it_hard⟩⟩
theorem RowsI.put {H : Hp} {ras : List Addr} {R : List (List Itm)} {q : Nat} {a : Addr} {r : List Itm} {us : List V} {m : Itm} {v : V} (h : RowsI H ras R) (ha : ras[q]? = some a) (hr : R[q]? = some r) (hu : H a = some (.lst us)) (rs : Reps H (r.map itD) us) (rv : Rep H (itD m) v) : RowsI (upd H a (.lst (us ++ [v]))) ras (R.set q (r ++ [m])) := by
  have tk : Tk H (upd H a (.lst (us ++ [v]))) := ((But.refl a H).upd).tkl hu
  refine ⟨by rw [List.length_set]; exact h.len, h.nd, fun j b s hb hs => ?_⟩
  by_cases c : q = j
  · subst c
    have hl : q < R.length := (List.getElem?_eq_some_iff.1 hr).1
    rw [List.getElem?_set_self hl] at hs
    cases hs
    rw [ha] at hb
    cases hb
    exact ⟨us ++ [v], upd_same, reps_snoc (rs.tkm tk it_hard) (rv.tk tk (it_hard m))⟩
  · rw [List.getElem?_set_ne c] at hs
    obtain ⟨ws, hw, rw'⟩ := h.at_ j b s hb hs
    have ne : b ≠ a := fun e => False.elim (by
      rw [e] at hb
      have h1 := (List.getElem?_eq_some_iff.1 ha)
      have h2 := (List.getElem?_eq_some_iff.1 hb)
      have z := List.pairwise_iff_getElem.1 h.nd
      rcases Nat.lt_or_gt_of_ne c with l | l
      · exact absurd (h1.2.trans h2.2.symm) (z q j h1.1 h2.1 l)
      · exact absurd (h2.2.trans h1.2.symm) (z j q h2.1 h1.1 l))
    exact ⟨ws, by rw [upd_ne ne]; exact hw, rw'.tkm tk it_hard⟩
theorem Reps.erase {H : Hp} : ∀ {ds : List D} {vs : List V} {i : Nat}, Reps H ds vs → Reps H (ds.eraseIdx i) (vs.eraseIdx i)
  | [], vs, i, h => by
    simp only [Reps] at h
    subst h
    simp only [List.eraseIdx_nil, Reps]
  | d :: ds, vs, i, h => by
    obtain ⟨v, r, rfl, hv, hr⟩ := h
    cases i with
    | zero => exact hr
    | succ i => exact ⟨v, r.eraseIdx i, rfl, hv, Reps.erase hr⟩
end Bk
set_option Elab.async false
set_option linter.all false
set_option maxRecDepth 100000
set_option maxHeartbeats 4000000
/-! Bk40: the later laws' trees: drawn, their sizes. -/
namespace Bk
open PySem PySem.Spec PyProof.Rows L2
structure TreeS (p R Kd : Addr) (w : Wd) (H H1 : Hp) (t : Tr) (rvs : List V) : Prop where
  bx0 : Box H p
  bt : But p H H1
  bx : Box H1 p
  hR : H R = none
  hK : H Kd = none
  RK : R ≠ Kd
  atR : H1 R = some (.lst rvs)
  atK : H1 Kd = some (.lst ((kindsT w t).map V.int))
  reps : Reps H1 (t.map rowD) rvs
  go : goTr w [] t = true
  row : ∀ r ∈ t, TextOk r.1 ∧ r.2.length ≤ 2
section
variable {p R Kd : Addr} {w : Wd} {H H1 H2 : Hp} {t : Tr} {rvs : List V}
theorem TreeS.np (s : TreeS p R Kd w H H1 t rvs) {a : Addr} (ha : H a = none) : a ≠ p := s.bx0.ne ha
theorem TreeS.free (s : TreeS p R Kd w H H1 t rvs) {a : Addr} (ha : H1 a = none) : H a = none := by
  cases e : H a with
  | none => rfl
  | some o =>
    by_cases z : a = p
    · subst z
      obtain ⟨_, _, _, q⟩ := s.bx
      rw [ha] at q
      cases q
    · rw [s.bt _ _ z e] at ha
      cases ha
theorem TreeS.but (s : TreeS p R Kd w H H1 t rvs) (b : But p H1 H2) (hb : Box H2 p) : TreeS p R Kd w H H2 t rvs :=
  { s with bt := s.bt.trans b, bx := hb, atR := b _ _ (s.np s.hR) s.atR, atK := b _ _ (s.np s.hK) s.atK, reps := s.reps.tk (s.bx.tk b) (rows_hard t) }
theorem TreeS.ex (s : TreeS p R Kd w H H1 t rvs) (e : Ex H1 H2) : TreeS p R Kd w H H2 t rvs := s.but (e.but p) (s.bx.ex e)
theorem TreeS.len (s : TreeS p R Kd w H H1 t rvs) : rvs.length = t.length := by rw [s.reps.len, List.length_map]
theorem TreeS.app (s : TreeS p R Kd w H H1 t rvs) {r : Str × List Int} {v : V} (rv : Rep H1 (rowD r) v) (hs : stands w (kindsT w t) r = true) (ht : TextOk r.1) (hl : r.2.length ≤ 2) :
    TreeS p R Kd w H (upd (upd H1 R (.lst (rvs ++ [v]))) Kd (.lst ((kindsT w t).map V.int ++ [.int (kindAt w r.1)]))) (t ++ [r]) (rvs ++ [v]) := by
  have k1 : Tk H1 (upd H1 R (.lst (rvs ++ [v]))) := tk_put s.atR
  have aK : (upd H1 R (.lst (rvs ++ [v]))) Kd = some (.lst ((kindsT w t).map V.int)) := by rw [upd_ne (Ne.symm s.RK)]; exact s.atK
  have k2 : Tk _ (upd (upd H1 R (.lst (rvs ++ [v]))) Kd (.lst ((kindsT w t).map V.int ++ [.int (kindAt w r.1)]))) := tk_put aK
  have k := k1.trans k2
  refine ⟨s.bx0, (s.bt.at_new s.hR).at_new s.hK, (s.bx.at_upd (s.np s.hR)).at_upd (s.np s.hK), s.hR, s.hK, s.RK, by rw [upd_ne s.RK, upd_same], ?_, ?_, by rw [goTr_app, s.go, List.nil_append, hs]; rfl, fun q hq => ?_⟩
  · rw [upd_same]
    unfold kindsT
    rw [List.map_append, List.map_append]
    rfl
  · rw [List.map_append]
    exact (s.reps.tk k (rows_hard t)).append (by simp only [List.map, Reps]; exact ⟨v, [], rfl, rv.tk k (row_hard r), rfl⟩)
  · rcases List.mem_append.1 hq with hq | hq
    · exact s.row q hq
    · rw [List.mem_singleton.1 hq]
      exact ⟨ht, hl⟩
end
end Bk
set_option Elab.async false
set_option linter.all false
set_option maxRecDepth 100000
set_option maxHeartbeats 4000000
/-! Bk41: values of a tree's rows; the plain tree, step by step. -/
namespace Bk
open PySem PySem.Spec PyProof.Rows L2
/-! ### values of the rows -/
section
variable {β : Type}
def foldV (d : β) (f : Str → List β → β) (t : Tr) : List β := t.foldl (fun acc row => acc ++ [f row.1 (row.2.map fun n => acc.getD n.toNat d)]) []
theorem fold_len {γ : Type} (g : List β → γ → β) : ∀ (l : List γ) (acc : List β), (l.foldl (fun acc row => acc ++ [g acc row]) acc).length = acc.length + l.length
  | [], acc => rfl
  | r :: l, acc => by
    show (l.foldl _ (acc ++ [g acc r])).length = _
    rw [fold_len g l, List.length_append, List.length_cons, List.length_cons, List.length_nil]
    omega
theorem fold_pre {γ : Type} (g : List β → γ → β) : ∀ (l : List γ) (acc : List β), (l.foldl (fun acc row => acc ++ [g acc row]) acc).take acc.length = acc
  | [], acc => List.take_length
  | r :: l, acc => by
    show (l.foldl _ (acc ++ [g acc r])).take acc.length = acc
    have ih := congrArg (List.take acc.length) (fold_pre g l (acc ++ [g acc r]))
    rw [List.take_take, List.length_append, Nat.min_eq_left (Nat.le_add_right _ _)] at ih
    rw [ih, List.take_append_of_le_length (Nat.le_refl _), List.take_length]
variable {d : β} {f : Str → List β → β} {t : Tr}
theorem foldV_snoc {r : Str × List Int} : foldV d f (t ++ [r]) = foldV d f t ++ [f r.1 (r.2.map fun n => (foldV d f t).getD n.toNat d)] := by
  unfold foldV
  rw [List.foldl_append]
  rfl
theorem foldV_len : (foldV d f t).length = t.length := by
  exact (fold_len (fun (acc : List β) (row : Str × List Int) => f row.1 (row.2.map fun n => acc.getD n.toNat d)) t []).trans (by rw [List.length_nil, Nat.zero_add])
theorem foldV_pre (i : Nat) (h : i ≤ t.length) : (foldV d f t).take i = foldV d f (t.take i) := by
  have e : foldV d f t = (t.drop i).foldl (fun acc row => acc ++ [f row.1 (row.2.map fun n => acc.getD n.toNat d)]) (foldV d f (t.take i)) := by
    show t.foldl _ [] = _
    have z := congrArg (List.foldl (fun acc row => acc ++ [f row.1 (row.2.map fun n => acc.getD n.toNat d)]) []) (List.take_append_drop i t).symm
    rw [List.foldl_append] at z
    exact z
  have l : (foldV d f (t.take i)).length = i := by rw [foldV_len, List.length_take]; omega
  have p := fold_pre (fun (acc : List β) (row : Str × List Int) => f row.1 (row.2.map fun n => acc.getD n.toNat d)) (t.drop i) (foldV d f (t.take i))
  rw [l, ← e] at p
  exact p
/-- each row's numbers are of rows ahead of it -/
def TrIdx (t : Tr) : Prop := ∀ (i : Nat) (r : Str × List Int), t[i]? = some r → r.2.length ≤ 2 ∧ ∀ n ∈ r.2, 0 ≤ n ∧ n < (i : Int)
theorem foldV_at (ok : TrIdx t) {i : Nat} {r : Str × List Int} (h : t[i]? = some r) : (foldV d f t)[i]? = some (f r.1 (r.2.map fun n => (foldV d f t).getD n.toNat d)) := by
  have li := (List.getElem?_eq_some_iff.1 h).1
  have p := foldV_pre (d := d) (f := f) (i + 1) (Nat.succ_le_of_lt li)
  rw [take_at h, foldV_snoc] at p
  have l : (foldV d f (t.take i)).length = i := by rw [foldV_len, List.length_take]; omega
  have q : (foldV d f t)[i]? = ((foldV d f t).take (i + 1))[i]? := by rw [List.getElem?_take, if_pos (Nat.lt_succ_self i)]
  rw [q, p, List.getElem?_append_right (by omega), l, Nat.sub_self]
  show some _ = some _
  congr 2
  refine List.map_congr_left fun n hn => ?_
  have := (ok i r h).2 n hn
  rw [List.getD_eq_getElem?_getD, List.getD_eq_getElem?_getD, ← foldV_pre i (Nat.le_of_lt li), List.getElem?_take, if_pos (by omega)]
theorem foldV_app (ok : TrIdx t) (r : Str × List Int) {i : Nat} (h : i < t.length) : (foldV d f (t ++ [r]))[i]? = (foldV d f t)[i]? := by
  rw [foldV_snoc, List.getElem?_append_left (by rw [foldV_len]; exact h)]
end
theorem TrIdx.take {t : Tr} (ok : TrIdx t) (i : Nat) : TrIdx (t.take i) := fun j r h => by
  rw [List.getElem?_take] at h
  split at h
  · exact ok j r h
  · cases h
theorem TrIdx.snoc {t : Tr} (ok : TrIdx t) {r : Str × List Int} (h2 : r.2.length ≤ 2) (h : ∀ n ∈ r.2, 0 ≤ n ∧ n < (t.length : Int)) : TrIdx (t ++ [r]) := fun j q hq => by
  by_cases c : j < t.length
  · rw [List.getElem?_append_left c] at hq
    exact ok j q hq
  · rw [List.getElem?_append_right (by omega)] at hq
    have ej : j = t.length := by
      have := (List.getElem?_eq_some_iff.1 hq).1
      rw [List.length_singleton] at this
      omega
    subst ej
    rw [Nat.sub_self] at hq
    cases hq
    exact ⟨h2, h⟩
/-! ### sizes -/
def szf : Str → List Int → Int := fun _ ps => 1 + ps.sum
def szT (t : Tr) (a : Nat) : Int := (foldV 0 szf t).getD a 0
theorem szT_at {t : Tr} (ok : TrIdx t) {a : Nat} {r : Str × List Int} (h : t[a]? = some r) : szT t a = 1 + (r.2.map fun n => szT t n.toNat).sum := by
  unfold szT
  rw [List.getD_eq_getElem?_getD, foldV_at ok h]
  rfl
theorem sz_pos {t : Tr} (ok : TrIdx t) : ∀ (k a : Nat), a < k → a < t.length → 1 ≤ szT t a
  | 0, a, h, _ => absurd h (Nat.not_lt_zero _)
  | k + 1, a, h, hl => by
    have e := List.getElem?_eq_getElem hl
    rw [szT_at ok e]
    have := sum_nonneg (l := t[a].2.map fun n => szT t n.toNat) fun x hx => by
      obtain ⟨n, hn, rfl⟩ := List.mem_map.1 hx
      have z := (ok a _ e).2 n hn
      have := sz_pos ok k n.toNat (by omega) (by omega)
      omega
    omega
theorem sz_pos' {t : Tr} (ok : TrIdx t) {a : Nat} (h : a < t.length) : 1 ≤ szT t a := sz_pos ok (a + 1) a (Nat.lt_succ_self a) h
theorem mem_le_sumI : ∀ {l : List Int} {x : Int}, (∀ y ∈ l, 0 ≤ y) → x ∈ l → x ≤ l.sum
  | [], x, _, h => nomatch h
  | a :: l, x, hl, h => by
    rw [List.sum_cons]
    have a0 := hl a List.mem_cons_self
    have s0 := sum_nonneg (l := l) fun y hy => hl y (List.mem_cons_of_mem _ hy)
    rcases List.mem_cons.1 h with rfl | h
    · omega
    · have := mem_le_sumI (l := l) (fun y hy => hl y (List.mem_cons_of_mem _ hy)) h
      omega
theorem sz_part {t : Tr} (ok : TrIdx t) {a : Nat} {r : Str × List Int} (h : t[a]? = some r) {n : Int} (hn : n ∈ r.2) : szT t n.toNat < szT t a := by
  rw [szT_at ok h]
  have la := (List.getElem?_eq_some_iff.1 h).1
  have := mem_le_sumI (l := r.2.map fun n => szT t n.toNat) (x := szT t n.toNat) (fun y hy => by
    obtain ⟨m, hm, rfl⟩ := List.mem_map.1 hy
    have z := (ok a _ h).2 m hm
    have := sz_pos' ok (a := m.toNat) (by omega)
    omega) (List.mem_map.2 ⟨n, hn, rfl⟩)
  omega
/-! ### the plain tree -/
structure PlSt where
  left : List (Nat × Bool)
  rows : Tr
  own : List (Nat × Nat)
def ownAt (own : List (Nat × Nat)) (n : Nat) : Option Nat := (own.find? fun p => decide (p.1 = n)).map (·.2)
def rowAt (t : Tr) (a : Nat) : Str × List Int := t.getD a ("", [])
def markOf (t : Tr) (own : List (Nat × Nat)) (a : Nat) : Mark := ((rowAt t a).1, (rowAt t a).2.map fun n => (((ownAt own n.toNat).getD 0 : Nat) : Int))
def markIx (rows : Tr) (m : Mark) : Option Nat := rows.findIdx? fun r => decide (r = m)
def stepP (t : Tr) : PlSt → PlSt
  | ⟨[], rows, own⟩ => ⟨[], rows, own⟩
  | ⟨(a, b) :: left, rows, own⟩ =>
    if (ownAt own a).isSome = true then ⟨left, rows, own⟩
    else if b = true then
      match markIx rows (markOf t own a) with
      | some k => ⟨left, rows, own ++ [(a, k)]⟩
      | none => ⟨left, rows ++ [markOf t own a], own ++ [(a, rows.length)]⟩
    else ⟨(rowAt t a).2.map (fun n => (n.toNat, false)) ++ (a, true) :: left, rows, own⟩
def startP (t : Tr) : PlSt := ⟨[(t.length - 1, false)], [], []⟩
def runP (t : Tr) : Nat → PlSt
  | 0 => startP t
  | k + 1 => stepP t (runP t k)
theorem ownAt_mem {own : List (Nat × Nat)} {n k : Nat} (h : ownAt own n = some k) : (n, k) ∈ own := by
  unfold ownAt at h
  cases c : own.find? fun p => decide (p.1 = n) with
  | none => rw [c] at h; cases h
  | some p =>
    rw [c] at h
    cases h
    have := List.find?_some c
    have e : p.1 = n := of_decide_eq_true this
    rw [← e]
    exact List.mem_of_find?_eq_some c
theorem ownAt_app {own : List (Nat × Nat)} {a k n : Nat} : ownAt (own ++ [(a, k)]) n = (ownAt own n).or (if a = n then some k else none) := by
  unfold ownAt
  rw [List.find?_append]
  cases own.find? fun p => decide (p.1 = n) with
  | some p => rfl
  | none =>
    by_cases c : a = n
    · simp [List.find?_cons, c]
    · simp [List.find?_cons, c]
theorem ownAt_none {own : List (Nat × Nat)} {n : Nat} (h : ownAt own n = none) : n ∉ own.map (·.1) := fun hm => by
  obtain ⟨p, hp, rfl⟩ := List.mem_map.1 hm
  unfold ownAt at h
  rw [Option.map_eq_none_iff, List.find?_eq_none] at h
  exact h p hp (decide_eq_true rfl)
theorem rowAt_eq {t : Tr} {a : Nat} {r : Str × List Int} (h : t[a]? = some r) : rowAt t a = r := by
  unfold rowAt
  rw [List.getD_eq_getElem?_getD, h]
  rfl
theorem markIx_some {rows : Tr} {m : Mark} {k : Nat} (h : markIx rows m = some k) : rows[k]? = some m := by
  unfold markIx at h
  obtain ⟨h1, h2, _⟩ := List.findIdx?_eq_some_iff_getElem.1 h
  rw [List.getElem?_eq_getElem h1, of_decide_eq_true h2]
theorem markIx_none {rows : Tr} {m : Mark} (h : markIx rows m = none) : m ∉ rows := fun hm => by
  unfold markIx at h
  rw [List.findIdx?_eq_none_iff] at h
  have := h m hm
  simp at this
structure PInv (t : Tr) (s : PlSt) : Prop where
  stk : ∀ p ∈ s.left, p.1 < t.length
  ord : s.left.Pairwise fun p q => q.2 = true → p.1 < q.1
  part : ∀ (above below : List (Nat × Bool)) (a : Nat), s.left = above ++ (a, true) :: below → ∀ n ∈ (rowAt t a).2, (ownAt s.own n.toNat).isSome = true ∨ ∃ b, (n.toNat, b) ∈ above
  ownl : ∀ p ∈ s.own, p.1 < t.length ∧ p.2 < s.rows.length
  ownd : (s.own.map (·.1)).Nodup
  few : s.rows.length ≤ s.own.length
  nd : s.rows.Nodup
  idx : TrIdx s.rows
  name : ∀ p ∈ s.own, (rowAt s.rows p.2).1 = (rowAt t p.1).1
  same : ∀ p ∈ s.own, ∀ (β : Type) (d : β) (f : Str → List β → β), (foldV d f s.rows)[p.2]? = (foldV d f t)[p.1]?
  rowl : ∀ (k : Nat) (r : Str × List Int), s.rows[k]? = some r → ∃ a, a < t.length ∧ r.1 = (rowAt t a).1 ∧ r.2.length = (rowAt t a).2.length ∧ ∀ (j : Nat) (n m : Int), r.2[j]? = some n → (rowAt t a).2[j]? = some m → 0 ≤ m ∧ m.toNat < a ∧ 0 ≤ n ∧ n.toNat < k ∧ (rowAt s.rows n.toNat).1 = (rowAt t m.toNat).1
  base : (∃ pre b, s.left = pre ++ [(t.length - 1, b)] ∧ (∀ p ∈ pre, szT t p.1 < szT t (t.length - 1)) ∧ (∀ k, k < s.rows.length → szT s.rows k < szT t (t.length - 1)) ∧ ownAt s.own (t.length - 1) = none) ∨ (s.left = [] ∧ ∃ k, ownAt s.own (t.length - 1) = some k ∧ k + 1 = s.rows.length)
def cntP (t : Tr) (left : List (Nat × Bool)) (own : List (Nat × Nat)) : Nat := (List.range t.length).countP fun a => (ownAt own a).isNone && !decide ((a, true) ∈ left)
def measP (t : Tr) (s : PlSt) : Nat := s.left.length + 4 * cntP t s.left s.own
theorem PInv.start {t : Tr} (h : 0 < t.length) : PInv t (startP t) := by
  refine ⟨fun p hp => ?_, List.pairwise_singleton _ _, fun above below a e => ?_, fun p z => (nomatch z), List.nodup_nil, Nat.le_refl _, List.nodup_nil, fun i r z => by simp [startP] at z, fun p z => (nomatch z), fun p z => (nomatch z), fun k r z => by simp [startP] at z, .inl ⟨[], false, rfl, fun p z => (nomatch z), fun k z => absurd z (Nat.not_lt_zero _), rfl⟩⟩
  · rw [List.mem_singleton.1 hp]
    show t.length - 1 < t.length
    omega
  · exfalso
    have : (a, true) ∈ (startP t).left := by rw [e]; exact List.mem_append_right _ List.mem_cons_self
    have z := List.mem_singleton.1 this
    cases z
theorem countP_lt {α : Type} {p q : α → Bool} : ∀ {l : List α} {a : α}, (∀ x, q x = true → p x = true) → a ∈ l → p a = true → q a = false → l.countP q < l.countP p
  | [], a, _, h, _, _ => nomatch h
  | x :: l, a, hx, h, h1, h2 => by
    rw [List.countP_cons, List.countP_cons]
    have le : l.countP q ≤ l.countP p := List.countP_mono_left fun y _ => hx y
    rcases List.mem_cons.1 h with rfl | h
    · rw [if_pos h1, if_neg (by rw [h2]; exact Bool.false_ne_true)]
      omega
    · have := countP_lt (l := l) hx h h1 h2
      by_cases c : q x = true
      · rw [if_pos c, if_pos (hx x c)]
        omega
      · rw [if_neg c]
        omega
theorem getD_snoc {α : Type} {l : List α} {x d : α} {k : Nat} (h : k < l.length) : (l ++ [x]).getD k d = l.getD k d := by
  rw [List.getD_eq_getElem?_getD, List.getD_eq_getElem?_getD, List.getElem?_append_left h]
theorem getD_last {α : Type} {l : List α} {x d : α} : (l ++ [x]).getD l.length d = x := by
  rw [List.getD_eq_getElem?_getD, List.getElem?_append_right (Nat.le_refl _), Nat.sub_self]
  rfl
theorem cons_app {α : Type} {x y : α} {l pre : List α} (h : x :: l = pre ++ [y]) : (pre = [] ∧ x = y ∧ l = []) ∨ ∃ pre', pre = x :: pre' ∧ l = pre' ++ [y] := by
  cases pre with
  | nil =>
    rw [List.nil_append] at h
    injection h with h1 h2
    exact .inl ⟨rfl, h1, h2⟩
  | cons z pre =>
    rw [List.cons_append] at h
    injection h with h1 h2
    exact .inr ⟨pre, by rw [h1], h2⟩
theorem meas_le {t : Tr} {left left' : List (Nat × Bool)} {rows rows' : Tr} {own own' : List (Nat × Nat)} {c : Nat × Bool} (hl : left = c :: left') (h : ∀ x, ownAt own' x = none → (x, true) ∉ left' → ownAt own x = none ∧ (x, true) ∉ left) : measP t ⟨left', rows', own'⟩ < measP t ⟨left, rows, own⟩ := by
  have : cntP t left' own' ≤ cntP t left own := List.countP_mono_left fun x _ hx => by
    simp only [Bool.and_eq_true, Option.isNone_iff_eq_none, Bool.not_eq_true', decide_eq_false_iff_not] at hx ⊢
    exact h x hx.1 hx.2
  show left'.length + 4 * cntP t left' own' < left.length + 4 * cntP t left own
  have e : left.length = left'.length + 1 := by rw [hl, List.length_cons]
  omega
theorem PInv.step {t : Tr} (ok : TrIdx t) {s : PlSt} (h : PInv t s) (hl : s.left ≠ []) : PInv t (stepP t s) ∧ measP t (stepP t s) < measP t s := by
  obtain ⟨left0, rows, own⟩ := s
  cases left0 with
  | nil => exact absurd rfl hl
  | cons p left =>
  obtain ⟨a, b⟩ := p
  have la : a < t.length := h.stk (a, b) List.mem_cons_self
  have er0 := List.getElem?_eq_getElem la
  obtain ⟨r, er⟩ : ∃ r, t[a]? = some r := ⟨_, er0⟩
  clear er0
  have ra := rowAt_eq er
  have rix := ok a r er
  have hbase := h.base.resolve_right fun z => nomatch z.1
  obtain ⟨pre, b', ebase, hpre, hsz, hroot⟩ := hbase
  replace ebase : (a, b) :: left = pre ++ [(t.length - 1, b')] := ebase
  replace hroot : ownAt own (t.length - 1) = none := hroot
  have ordt := List.pairwise_cons.1 h.ord
  by_cases c1 : (ownAt own a).isSome = true
  · -- it is there
    have es : stepP t ⟨(a, b) :: left, rows, own⟩ = ⟨left, rows, own⟩ := by
      show (if (ownAt own a).isSome = true then _ else _) = _
      rw [if_pos c1]
    rw [es]
    refine ⟨⟨fun p hp => h.stk p (List.mem_cons_of_mem _ hp), ordt.2, fun above below x e n hn => ?_, h.ownl, h.ownd, h.few, h.nd, h.idx, h.name, h.same, h.rowl, ?_⟩, meas_le rfl fun x h1 h2 => ⟨h1, fun z => ?_⟩⟩
    · replace e : left = above ++ (x, true) :: below := e
      rcases h.part ((a, b) :: above) below x (by show (a, b) :: left = _; rw [e]; rfl) n hn with z | ⟨b2, z⟩
      · exact .inl z
      · rcases List.mem_cons.1 z with z | z
        · have : n.toNat = a := congrArg Prod.fst z
          exact .inl (by rw [this]; exact c1)
        · exact .inr ⟨b2, z⟩
    · rcases cons_app ebase with ⟨_, e, _⟩ | ⟨pre', rfl, e⟩
      · have : a = t.length - 1 := congrArg Prod.fst e
        rw [this, hroot] at c1
        cases c1
      · exact .inl ⟨pre', b', e, fun p hp => hpre p (List.mem_cons_of_mem _ hp), hsz, hroot⟩
    · rcases List.mem_cons.1 z with z | z
      · have : x = a := congrArg Prod.fst z
        rw [this] at h1
        rw [h1] at c1
        cases c1
      · exact h2 z
  have own0 : ownAt own a = none := by
    cases c : ownAt own a with
    | none => rfl
    | some k => rw [c] at c1; exact absurd rfl c1
  cases b with
  | false =>
    -- its parts first
    have es : stepP t ⟨(a, false) :: left, rows, own⟩ = ⟨r.2.map (fun n => (n.toNat, false)) ++ (a, true) :: left, rows, own⟩ := by
      show (if (ownAt own a).isSome = true then _ else if false = true then _ else _) = _
      rw [if_neg c1, if_neg Bool.false_ne_true, ra]
    rw [es]
    have pin : ∀ p ∈ r.2.map (fun n : Int => (n.toNat, false)), p.2 = false ∧ p.1 < a ∧ szT t p.1 < szT t a := fun p hp => by
      obtain ⟨n, hn, rfl⟩ := List.mem_map.1 hp
      have := rix.2 n hn
      exact ⟨rfl, show n.toNat < a by omega, sz_part ok er hn⟩
    refine ⟨⟨fun p hp => ?_, ?_, fun above below x e n hn => ?_, h.ownl, h.ownd, h.few, h.nd, h.idx, h.name, h.same, h.rowl, ?_⟩, ?_⟩
    · rcases List.mem_append.1 hp with hp | hp
      · have := (pin p hp).2.1
        omega
      · rcases List.mem_cons.1 hp with rfl | hp
        · exact la
        · exact h.stk p (List.mem_cons_of_mem _ hp)
    · refine List.pairwise_append.2 ⟨?_, List.pairwise_cons.2 ⟨fun q hq hq2 => ordt.1 q hq hq2, ordt.2⟩, fun p hp q hq hq2 => ?_⟩
      · refine List.Pairwise.imp_of_mem (R := fun _ _ => True) (fun {p q} _ hq _ hq2 => ?_) (List.pairwise_of_forall_mem_list fun _ _ _ _ => trivial)
        rw [(pin q hq).1] at hq2
        cases hq2
      · have := (pin p hp).2.1
        rcases List.mem_cons.1 hq with rfl | hq
        · exact this
        · have := ordt.1 q hq hq2
          replace this : a < q.1 := this
          omega
    · replace e : r.2.map (fun n => (n.toNat, false)) ++ (a, true) :: left = above ++ (x, true) :: below := e
      have first : ∀ c' : List (Nat × Bool), above = r.2.map (fun n => (n.toNat, false)) ++ c' → (a, true) :: left = c' ++ (x, true) :: below → (ownAt own n.toNat).isSome = true ∨ ∃ b, (n.toNat, b) ∈ above := by
        intro c' ea e2
        cases c' with
        | nil =>
          rw [List.nil_append] at e2
          injection e2 with e2 _
          have : a = x := congrArg Prod.fst e2
          subst this
          rw [ra] at hn
          exact .inr ⟨false, by rw [ea, List.append_nil]; exact List.mem_map.2 ⟨n, hn, rfl⟩⟩
        | cons q c' =>
          rw [List.cons_append] at e2
          injection e2 with e2 e3
          rcases h.part ((a, false) :: c') below x (by show (a, false) :: left = _; rw [e3]; rfl) n hn with z | ⟨b2, z⟩
          · exact .inl z
          · rcases List.mem_cons.1 z with z | z
            · have : n.toNat = a := congrArg Prod.fst z
              exact .inr ⟨true, by rw [ea, this, ← e2]; exact List.mem_append_right _ List.mem_cons_self⟩
            · exact .inr ⟨b2, by rw [ea]; exact List.mem_append_right _ (List.mem_cons_of_mem _ z)⟩
      rcases List.append_eq_append_iff.1 e with ⟨c', e1, e2⟩ | ⟨c', e1, e2⟩
      · exact first c' e1 e2
      · cases c' with
        | nil =>
          rw [List.append_nil] at e1
          rw [List.nil_append] at e2
          exact first [] (by rw [e1, List.append_nil]) (by rw [List.nil_append]; exact e2.symm)
        | cons q c' =>
          rw [List.cons_append] at e2
          injection e2 with e2 _
          have := (pin q (by rw [e1]; exact List.mem_append_right _ List.mem_cons_self)).1
          rw [← e2] at this
          cases this
    · rcases cons_app ebase with ⟨_, e, e2⟩ | ⟨pre', rfl, e⟩
      · have ea : a = t.length - 1 := congrArg Prod.fst e
        refine .inl ⟨r.2.map (fun n => (n.toNat, false)), true, ?_, fun p hp => ?_, hsz, hroot⟩
        · show _ ++ (a, true) :: left = _
          rw [e2, ea]
        · rw [← ea]
          exact (pin p hp).2.2
      · have sa := hpre (a, false) List.mem_cons_self
        refine .inl ⟨r.2.map (fun n => (n.toNat, false)) ++ (a, true) :: pre', b', ?_, fun p hp => ?_, hsz, hroot⟩
        · show _ ++ (a, true) :: left = _
          rw [e, List.append_assoc]
          rfl
        · rcases List.mem_append.1 hp with hp | hp
          · exact Int.lt_trans (pin p hp).2.2 sa
          · rcases List.mem_cons.1 hp with rfl | hp
            · exact sa
            · exact hpre p (List.mem_cons_of_mem _ hp)
    · have lp : (r.2.map (fun n : Int => (n.toNat, false))).length ≤ 2 := by rw [List.length_map]; exact rix.1
      have : cntP t (r.2.map (fun n : Int => (n.toNat, false)) ++ (a, true) :: left) own < cntP t ((a, false) :: left) own := countP_lt (l := List.range t.length) (a := a) (p := fun x => (ownAt own x).isNone && !decide ((x, true) ∈ (a, false) :: left)) (q := fun x => (ownAt own x).isNone && !decide ((x, true) ∈ r.2.map (fun n : Int => (n.toNat, false)) ++ (a, true) :: left)) (fun x hx => by
        simp only [Bool.and_eq_true, Option.isNone_iff_eq_none, Bool.not_eq_true', decide_eq_false_iff_not] at hx ⊢
        refine ⟨hx.1, fun z => hx.2 (List.mem_append_right _ (List.mem_cons_of_mem _ ?_))⟩
        rcases List.mem_cons.1 z with z | z
        · cases z
        · exact z) (List.mem_range.2 la) (by
        simp only [Bool.and_eq_true, Option.isNone_iff_eq_none, Bool.not_eq_true', decide_eq_false_iff_not]
        refine ⟨own0, fun z => ?_⟩
        rcases List.mem_cons.1 z with z | z
        · cases z
        · exact Nat.lt_irrefl _ (ordt.1 (a, true) z rfl)) (by
        have : decide ((a, true) ∈ r.2.map (fun n : Int => (n.toNat, false)) ++ (a, true) :: left) = true := decide_eq_true (List.mem_append_right _ List.mem_cons_self)
        simp only [this, Bool.not_true, Bool.and_false])
      show (r.2.map (fun n : Int => (n.toNat, false)) ++ (a, true) :: left).length + 4 * cntP t (r.2.map (fun n : Int => (n.toNat, false)) ++ (a, true) :: left) own < ((a, false) :: left).length + 4 * cntP t ((a, false) :: left) own
      rw [List.length_append, List.length_cons, List.length_cons]
      omega
  | true =>
    have hparts : ∀ n ∈ r.2, ∃ k, ownAt own n.toNat = some k ∧ (n.toNat, k) ∈ own ∧ k < rows.length := fun n hn => by
      rcases h.part [] left a rfl n (by rw [ra]; exact hn) with z | ⟨_, z⟩
      · obtain ⟨k, hk⟩ := Option.isSome_iff_exists.1 z
        exact ⟨k, hk, ownAt_mem hk, (h.ownl _ (ownAt_mem hk)).2⟩
      · cases z
    obtain ⟨m, em⟩ : ∃ m, m = markOf t own a := ⟨_, rfl⟩
    have em2 : m = (r.1, r.2.map fun n => (((ownAt own n.toNat).getD 0 : Nat) : Int)) := by rw [em]; unfold markOf; rw [ra]
    have hval : ∀ (β : Type) (d : β) (f : Str → List β → β), f m.1 (m.2.map fun n => (foldV d f rows).getD n.toNat d) = f r.1 (r.2.map fun n => (foldV d f t).getD n.toNat d) := fun β d f => by
      rw [em2]
      show f r.1 ((r.2.map fun n => (((ownAt own n.toNat).getD 0 : Nat) : Int)).map fun n => (foldV d f rows).getD n.toNat d) = _
      rw [List.map_map]
      congr 1
      refine List.map_congr_left fun n hn => ?_
      obtain ⟨k, hk, hm, _⟩ := hparts n hn
      show (foldV d f rows).getD (((ownAt own n.toNat).getD 0 : Nat) : Int).toNat d = _
      rw [hk, Option.getD_some, Int.toNat_natCast, List.getD_eq_getElem?_getD, List.getD_eq_getElem?_getD, h.same _ hm β d f]
    have mlen : m.2.length ≤ 2 := by rw [em2]; show (r.2.map _).length ≤ 2; rw [List.length_map]; exact rix.1
    have mrow : ∀ (j : Nat) (n q : Int), m.2[j]? = some n → r.2[j]? = some q → 0 ≤ q ∧ q.toNat < a ∧ 0 ≤ n ∧ n.toNat < rows.length ∧ (rowAt rows n.toNat).1 = (rowAt t q.toNat).1 := fun j n q hn hq => by
      rw [em2] at hn
      rw [List.getElem?_map, hq] at hn
      cases hn
      obtain ⟨k, hk, hm, hkl⟩ := hparts q (List.mem_of_getElem? hq)
      have := rix.2 q (List.mem_of_getElem? hq)
      show 0 ≤ q ∧ q.toNat < a ∧ (0 : Int) ≤ (((ownAt own q.toNat).getD 0 : Nat) : Int) ∧ (((ownAt own q.toNat).getD 0 : Nat) : Int).toNat < rows.length ∧ (rowAt rows (((ownAt own q.toNat).getD 0 : Nat) : Int).toNat).1 = (rowAt t q.toNat).1
      rw [hk, Option.getD_some, Int.toNat_natCast]
      exact ⟨this.1, by omega, Int.natCast_nonneg _, hkl, h.name _ hm⟩
    have mnum : ∀ n ∈ m.2, 0 ≤ n ∧ n < (rows.length : Int) := fun n hn => by
      obtain ⟨j, hj⟩ := List.mem_iff_getElem?.1 hn
      have lj := (List.getElem?_eq_some_iff.1 hj).1
      have l2 : j < r.2.length := by rw [em2] at lj; rw [List.length_map] at lj; exact lj
      have := mrow j n _ hj (List.getElem?_eq_getElem l2)
      omega
    have vt : ∀ (β : Type) (d : β) (f : Str → List β → β), (foldV d f t)[a]? = some (f m.1 (m.2.map fun n => (foldV d f rows).getD n.toNat d)) := fun β d f => by rw [hval β d f, foldV_at ok er]
    have newown : ∀ {k : Nat} (x : Nat), ownAt (own ++ [(a, k)]) x = none → ownAt own x = none ∧ x ≠ a := fun {k} x hx => by
      rw [ownAt_app] at hx
      cases c : ownAt own x with
      | some y => rw [c] at hx; cases hx
      | none =>
        rw [c] at hx
        refine ⟨rfl, fun z => ?_⟩
        rw [if_pos z.symm] at hx
        cases hx
    have stillown : ∀ {k : Nat} (x : Nat), (ownAt own x).isSome = true ∨ x = a → (ownAt (own ++ [(a, k)]) x).isSome = true := fun {k} x hx => by
      rw [ownAt_app]
      rcases hx with hx | rfl
      · obtain ⟨y, hy⟩ := Option.isSome_iff_exists.1 hx
        rw [hy]
        rfl
      · rw [own0, if_pos rfl]
        rfl
    have part' : ∀ {k : Nat} (above below : List (Nat × Bool)) (x : Nat), left = above ++ (x, true) :: below → ∀ n ∈ (rowAt t x).2, (ownAt (own ++ [(a, k)]) n.toNat).isSome = true ∨ ∃ b, (n.toNat, b) ∈ above := fun {k} above below x e n hn => by
      rcases h.part ((a, true) :: above) below x (by show (a, true) :: left = _; rw [e]; rfl) n hn with z | ⟨b2, z⟩
      · exact .inl (stillown _ (.inl z))
      · rcases List.mem_cons.1 z with z | z
        · exact .inl (stillown _ (.inr (congrArg Prod.fst z)))
        · exact .inr ⟨b2, z⟩
    have ownd' : ∀ {k : Nat}, ((own ++ [(a, k)]).map (·.1)).Nodup := fun {k} => by
      rw [List.map_append]
      refine List.nodup_append.2 ⟨h.ownd, List.nodup_cons.2 ⟨fun z => (nomatch z), List.nodup_nil⟩, fun x hx y hy => ?_⟩
      rw [List.mem_singleton.1 hy]
      intro z
      rw [z] at hx
      exact ownAt_none own0 hx
    have less : ∀ {rows' : Tr} {k : Nat}, measP t ⟨left, rows', own ++ [(a, k)]⟩ < measP t ⟨(a, true) :: left, rows, own⟩ := fun {rows' k} => meas_le rfl fun x h1 h2 => by
      obtain ⟨h3, h4⟩ := newown x h1
      refine ⟨h3, fun z => ?_⟩
      rcases List.mem_cons.1 z with z | z
      · exact h4 (congrArg Prod.fst z)
      · exact h2 z
    cases cm : markIx rows m with
    | some k =>
      have es : stepP t ⟨(a, true) :: left, rows, own⟩ = ⟨left, rows, own ++ [(a, k)]⟩ := by
        show (if (ownAt own a).isSome = true then _ else if true = true then _ else _) = _
        rw [if_neg c1, if_pos rfl, ← em, cm]
      rw [es]
      have hk := markIx_some cm
      have lk := (List.getElem?_eq_some_iff.1 hk).1
      refine ⟨⟨fun p hp => h.stk p (List.mem_cons_of_mem _ hp), ordt.2, part', fun p hp => ?_, ownd', by show rows.length ≤ (own ++ [(a, k)]).length; have := h.few; rw [List.length_append]; replace this : rows.length ≤ own.length := this; omega, h.nd, h.idx, fun p hp => ?_, fun p hp β d f => ?_, h.rowl, ?_⟩, less⟩
      · rcases List.mem_append.1 hp with hp | hp
        · exact h.ownl p hp
        · rw [List.mem_singleton.1 hp]
          exact ⟨la, lk⟩
      · rcases List.mem_append.1 hp with hp | hp
        · exact h.name p hp
        · rw [List.mem_singleton.1 hp]
          show (rowAt rows k).1 = (rowAt t a).1
          rw [rowAt_eq hk, ra, em2]
      · rcases List.mem_append.1 hp with hp | hp
        · exact h.same p hp β d f
        · rw [List.mem_singleton.1 hp]
          show (foldV d f rows)[k]? = (foldV d f t)[a]?
          rw [vt, foldV_at h.idx hk]
      · have sk : szT rows k = szT t a := by
          unfold szT
          rw [List.getD_eq_getElem?_getD, List.getD_eq_getElem?_getD, vt, foldV_at h.idx hk]
        rcases cons_app ebase with ⟨_, e, e2⟩ | ⟨pre', rfl, e⟩
        · exfalso
          have ea : a = t.length - 1 := congrArg Prod.fst e
          have := hsz k lk
          replace this : szT rows k < szT t (t.length - 1) := this
          rw [sk, ea] at this
          exact Int.lt_irrefl _ this
        · have sa := hpre (a, true) List.mem_cons_self
          refine .inl ⟨pre', b', e, fun p hp => hpre p (List.mem_cons_of_mem _ hp), hsz, ?_⟩
          show ownAt (own ++ [(a, k)]) (t.length - 1) = none
          rw [ownAt_app, hroot, if_neg fun z => ?_]
          · rfl
          · rw [z] at sa
            exact Int.lt_irrefl _ sa
    | none =>
      have es : stepP t ⟨(a, true) :: left, rows, own⟩ = ⟨left, rows ++ [m], own ++ [(a, rows.length)]⟩ := by
        show (if (ownAt own a).isSome = true then _ else if true = true then _ else _) = _
        rw [if_neg c1, if_pos rfl, ← em, cm]
      rw [es]
      have hm := markIx_none cm
      have rold : ∀ k, k < rows.length → rowAt (rows ++ [m]) k = rowAt rows k := fun k hk => getD_snoc hk
      have rnew : rowAt (rows ++ [m]) rows.length = m := getD_last
      have vnew : ∀ (β : Type) (d : β) (f : Str → List β → β), (foldV d f (rows ++ [m]))[rows.length]? = (foldV d f t)[a]? := fun β d f => by
        rw [vt, foldV_snoc, List.getElem?_append_right (by rw [foldV_len]; exact Nat.le_refl _), foldV_len, Nat.sub_self]
        rfl
      refine ⟨⟨fun p hp => h.stk p (List.mem_cons_of_mem _ hp), ordt.2, part', fun p hp => ?_, ownd', by show (rows ++ [m]).length ≤ (own ++ [(a, rows.length)]).length; have := h.few; replace this : rows.length ≤ own.length := this; rw [List.length_append, List.length_append]; simp; omega, ?_, h.idx.snoc mlen mnum, fun p hp => ?_, fun p hp β d f => ?_, fun k q hq => ?_, ?_⟩, less⟩
      · show p.1 < t.length ∧ p.2 < (rows ++ [m]).length
        rw [List.length_append, List.length_singleton]
        rcases List.mem_append.1 hp with hp | hp
        · have := h.ownl p hp
          replace this : p.1 < t.length ∧ p.2 < rows.length := this
          exact ⟨this.1, by omega⟩
        · rw [List.mem_singleton.1 hp]
          exact ⟨la, Nat.lt_succ_self _⟩
      · refine List.nodup_append.2 ⟨h.nd, List.nodup_cons.2 ⟨fun z => (nomatch z), List.nodup_nil⟩, fun x hx y hy => ?_⟩
        rw [List.mem_singleton.1 hy]
        intro z
        rw [z] at hx
        exact hm hx
      · show (rowAt (rows ++ [m]) p.2).1 = _
        rcases List.mem_append.1 hp with hp | hp
        · rw [rold _ (h.ownl p hp).2]
          exact h.name p hp
        · rw [List.mem_singleton.1 hp]
          show (rowAt (rows ++ [m]) rows.length).1 = (rowAt t a).1
          rw [rnew, ra, em2]
      · show (foldV d f (rows ++ [m]))[p.2]? = _
        rcases List.mem_append.1 hp with hp | hp
        · rw [foldV_app h.idx m (h.ownl p hp).2]
          exact h.same p hp β d f
        · rw [List.mem_singleton.1 hp]
          exact vnew β d f
      · replace hq : (rows ++ [m])[k]? = some q := hq
        show ∃ a, a < t.length ∧ q.1 = (rowAt t a).1 ∧ q.2.length = (rowAt t a).2.length ∧ ∀ (j : Nat) (n m' : Int), q.2[j]? = some n → (rowAt t a).2[j]? = some m' → 0 ≤ m' ∧ m'.toNat < a ∧ 0 ≤ n ∧ n.toNat < k ∧ (rowAt (rows ++ [m]) n.toNat).1 = (rowAt t m'.toNat).1
        by_cases c : k < rows.length
        · rw [List.getElem?_append_left c] at hq
          obtain ⟨x, x1, x2, x3, x4⟩ := h.rowl k q hq
          refine ⟨x, x1, x2, x3, fun j n m' hn hm' => ?_⟩
          obtain ⟨y1, y2, y3, y4, y5⟩ := x4 j n m' hn hm'
          exact ⟨y1, y2, y3, y4, by rw [rold _ (by omega)]; exact y5⟩
        · rw [List.getElem?_append_right (by omega)] at hq
          have ek : k = rows.length := by
            have := (List.getElem?_eq_some_iff.1 hq).1
            rw [List.length_singleton] at this
            omega
          subst ek
          rw [Nat.sub_self] at hq
          cases hq
          refine ⟨a, la, by rw [ra, em2], by rw [ra, em2, List.length_map], fun j n m' hn hm' => ?_⟩
          rw [ra] at hm'
          obtain ⟨y1, y2, y3, y4, y5⟩ := mrow j n m' hn hm'
          exact ⟨y1, y2, y3, y4, by rw [rold _ y4]; exact y5⟩
      · rcases cons_app ebase with ⟨_, e, e2⟩ | ⟨pre', rfl, e⟩
        · have ea : a = t.length - 1 := congrArg Prod.fst e
          refine .inr ⟨e2, rows.length, ?_, ?_⟩
          · show ownAt (own ++ [(a, rows.length)]) (t.length - 1) = _
            rw [ownAt_app, hroot, if_pos ea]
            rfl
          · show _ = (rows ++ [m]).length
            rw [List.length_append, List.length_singleton]
        · have sa := hpre (a, true) List.mem_cons_self
          refine .inl ⟨pre', b', e, fun p hp => hpre p (List.mem_cons_of_mem _ hp), fun k hk => ?_, ?_⟩
          · replace hk : k < (rows ++ [m]).length := hk
            show szT (rows ++ [m]) k < _
            rw [List.length_append, List.length_singleton] at hk
            by_cases c : k < rows.length
            · have : szT (rows ++ [m]) k = szT rows k := by
                unfold szT
                rw [List.getD_eq_getElem?_getD, List.getD_eq_getElem?_getD, foldV_app h.idx m c]
              rw [this]
              exact hsz k c
            · have ek : k = rows.length := by omega
              subst ek
              have : szT (rows ++ [m]) rows.length = szT t a := by
                unfold szT
                rw [List.getD_eq_getElem?_getD, List.getD_eq_getElem?_getD, vnew]
              rw [this]
              exact sa
          · show ownAt (own ++ [(a, rows.length)]) (t.length - 1) = none
            rw [ownAt_app, hroot, if_neg fun z => ?_]
            · rfl
            · rw [z] at sa
              exact Int.lt_irrefl _ sa
end Bk
set_option Elab.async false
set_option linter.all false
set_option maxRecDepth 100000
set_option maxHeartbeats 4000000
/-! Bk42: the plain tree's loop on the heap; reversed; dicts by whole numbers. -/
namespace Bk
open PySem PySem.Spec PyProof.Rows L2
/-! ### dicts by whole numbers -/
/-! ### reversed(tuple) -/
/-! ### the plain tree's loop -/
/-- (a row's number, is it done) on a pile, its top last -/
def LfAt (H : Hp) : List (Nat × Bool) → List V → Prop
  | [], vs => vs = []
  | p :: l, vs => ∃ xs q, vs = xs ++ [.ref q] ∧ H q = some (.tup [.int (p.1 : Nat), .bl p.2]) ∧ LfAt H l xs
theorem LfAt.tk {H H' : Hp} (t : Tk H H') : ∀ {l : List (Nat × Bool)} {vs : List V}, LfAt H l vs → LfAt H' l vs
  | [], _, h => h
  | p :: l, _, ⟨xs, q, e, h1, h2⟩ => ⟨xs, q, e, t _ _ h1, LfAt.tk t h2⟩
theorem LfAt.len {H : Hp} : ∀ {l : List (Nat × Bool)} {vs : List V}, LfAt H l vs → vs.length = l.length
  | [], _, h => by rw [show _ = _ from h]; rfl
  | p :: l, _, ⟨xs, q, e, h1, h2⟩ => by rw [e, List.length_append, LfAt.len h2]; rfl
theorem LfAt.ext {H : Hp} {l : List (Nat × Bool)} {xs : List V} (h : LfAt H l xs) : ∀ {ps : List (Nat × Bool)} {acc : List V}, acc.length = ps.length → (∀ (j : Nat) (v : V), acc[j]? = some v → ∃ q p, v = .ref q ∧ ps[ps.length - 1 - j]? = some p ∧ H q = some (.tup [.int (p.1 : Nat), .bl p.2])) → LfAt H (ps ++ l) (xs ++ acc)
  | [], acc, hl, _ => by
    rw [List.eq_nil_of_length_eq_zero hl, List.append_nil]
    exact h
  | p :: ps, acc, hl, ha => by
    rw [List.length_cons] at hl
    have ne : acc ≠ [] := fun z => by rw [z] at hl; cases hl
    have e := List.dropLast_concat_getLast ne
    have hlast : acc[ps.length]? = some (acc.getLast ne) := by
      rw [List.getLast_eq_getElem, List.getElem?_eq_getElem (by omega)]
      congr 2
      omega
    obtain ⟨q, p', hq, hp, hH⟩ := ha _ _ hlast
    rw [List.length_cons, show ps.length + 1 - 1 - ps.length = 0 by omega] at hp
    cases hp
    refine ⟨xs ++ acc.dropLast, q, ?_, hH, LfAt.ext h (by rw [List.length_dropLast]; omega) fun j v hj => ?_⟩
    · rw [List.append_assoc, ← hq, e]
    · have lj : j < acc.dropLast.length := (List.getElem?_eq_some_iff.1 hj).1
      have ld : acc.dropLast.length = ps.length := by rw [List.length_dropLast]; omega
      have hj2 : acc[j]? = some v := by rw [← e, List.getElem?_append_left lj]; exact hj
      obtain ⟨q2, p2, h1, h2, h3⟩ := ha j v hj2
      refine ⟨q2, p2, h1, ?_, h3⟩
      rw [List.length_cons, show ps.length + 1 - 1 - j = (ps.length - 1 - j) + 1 by omega] at h2
      exact h2
section
variable {t : Tr} {a : Nat} {left : List (Nat × Bool)} {rows : Tr} {own : List (Nat × Nat)}
theorem stepP_there {b : Bool} {k : Nat} (h : ownAt own a = some k) : stepP t ⟨(a, b) :: left, rows, own⟩ = ⟨left, rows, own⟩ := by
  show (if (ownAt own a).isSome = true then _ else _) = _
  exact if_pos (by rw [h]; rfl)
theorem stepP_open (h : ownAt own a = none) : stepP t ⟨(a, false) :: left, rows, own⟩ = ⟨(rowAt t a).2.map (fun n => (n.toNat, false)) ++ (a, true) :: left, rows, own⟩ := by
  show (if (ownAt own a).isSome = true then _ else if false = true then _ else _) = _
  rw [if_neg (by rw [h]; exact Bool.false_ne_true), if_neg Bool.false_ne_true]
theorem stepP_old {k : Nat} (h : ownAt own a = none) (hm : markIx rows (markOf t own a) = some k) : stepP t ⟨(a, true) :: left, rows, own⟩ = ⟨left, rows, own ++ [(a, k)]⟩ := by
  show (if (ownAt own a).isSome = true then _ else if true = true then _ else _) = _
  rw [if_neg (by rw [h]; exact Bool.false_ne_true), if_pos rfl, hm]
theorem stepP_new (h : ownAt own a = none) (hm : markIx rows (markOf t own a) = none) : stepP t ⟨(a, true) :: left, rows, own⟩ = ⟨left, rows ++ [markOf t own a], own ++ [(a, rows.length)]⟩ := by
  show (if (ownAt own a).isSome = true then _ else if true = true then _ else _) = _
  rw [if_neg (by rw [h]; exact Bool.false_ne_true), if_pos rfl, hm]
end
theorem PInv.sizes {t : Tr} {s : PlSt} (h : PInv t s) : s.own.length ≤ t.length ∧ s.rows.length ≤ t.length := by
  have a : s.own.length ≤ t.length := by
    have : (s.own.map (·.1)).length ≤ (List.range t.length).length := List.Nodup.length_le_of_subset h.ownd fun x hx => by
      obtain ⟨p, hp, rfl⟩ := List.mem_map.1 hx
      exact List.mem_range.2 (h.ownl p hp).1
    rw [List.length_map, List.length_range] at this
    exact this
  exact ⟨a, Nat.le_trans h.few a⟩
end Bk
set_option Elab.async false
set_option linter.all false
set_option maxRecDepth 100000
set_option maxHeartbeats 4000000
/-! Bk43: what is printed of a tree. -/
namespace Bk
open PySem PySem.Spec PyProof.Rows L2
/-! ### trees of a wood -/
structure TrW (w : Wd) (t : Tr) : Prop where
  idx : TrIdx t
  row : ∀ (i : Nat) (row : Str × List Int), t[i]? = some row → ∃ j e, PartsAt w ([], []) t i row j e
/-! ### how long the texts are -/
theorem perm_sum {l m : List Nat} (h : l.Perm m) : l.sum = m.sum := by
  induction h with
  | nil => rfl
  | cons x _ ih => rw [List.sum_cons, List.sum_cons, ih]
  | swap x y l => rw [List.sum_cons, List.sum_cons, List.sum_cons, List.sum_cons]; omega
  | trans _ _ a b => rw [a, b]
theorem sub_sum {α : Type} [DecidableEq α] (f : α → Nat) : ∀ (bs L : List α), bs.Nodup → (∀ b ∈ bs, b ∈ L) → (bs.map f).sum ≤ (L.map f).sum
  | [], L, _, _ => Nat.zero_le _
  | b :: bs, L, nd, h => by
    have nd' := List.nodup_cons.1 nd
    have p := List.perm_cons_erase (h b List.mem_cons_self)
    rw [perm_sum (p.map f), List.map_cons, List.map_cons, List.sum_cons, List.sum_cons]
    have := sub_sum f bs (L.erase b) nd'.2 fun c hc => (List.mem_erase_of_ne (fun z => nd'.1 (by rw [← z]; exact hc))).2 (h c (List.mem_cons_of_mem _ hc))
    omega
end Bk
set_option Elab.async false
/-! Bk44: joining sign by sign; the plain tree's printing. -/
namespace Bk
open PySem PySem.Spec PyProof.Rows L2
theorem acc_mapS {α : Type} {acc : List V} {xs : List α} {f : α → Str} (hl : acc.length = xs.length) (h : ∀ (j : Nat) (v : V), acc[j]? = some v → ∃ x, xs[j]? = some x ∧ v = .str (f x)) : acc = (xs.map f).map V.str := by
  rw [List.map_map]
  exact acc_map (f := V.str ∘ f) hl h
/-! ### signs of what is printed -/
/-! ### the plain tree's end -/
theorem runP_own {t : Tr} : ∀ (n k : Nat), k < (runP t n).rows.length → ∃ a, (a, k) ∈ (runP t n).own
  | 0, k, h => absurd h (Nat.not_lt_zero _)
  | n + 1, k, h => by
    have ih := runP_own (t := t) n
    have e : runP t (n + 1) = stepP t (runP t n) := rfl
    rw [e] at h ⊢
    generalize runP t n = s at ih h
    obtain ⟨left, rows, own⟩ := s
    cases left with
    | nil => exact ih k h
    | cons p left =>
      obtain ⟨a, b⟩ := p
      cases c : ownAt own a with
      | some kk =>
        rw [stepP_there c] at h ⊢
        exact ih k h
      | none =>
        cases b with
        | false =>
          rw [stepP_open c] at h ⊢
          exact ih k h
        | true =>
          cases cm : markIx rows (markOf t own a) with
          | some q =>
            rw [stepP_old c cm] at h ⊢
            obtain ⟨x, hx⟩ := ih k h
            exact ⟨x, List.mem_append_left _ hx⟩
          | none =>
            rw [stepP_new c cm] at h ⊢
            by_cases ck : k < rows.length
            · obtain ⟨x, hx⟩ := ih k ck
              exact ⟨x, List.mem_append_left _ hx⟩
            · replace h : k < (rows ++ [markOf t own a]).length := h
              rw [List.length_append, List.length_singleton] at h
              have : k = rows.length := by omega
              subst this
              exact ⟨a, List.mem_append_right _ (List.mem_singleton.2 rfl)⟩
structure PlEnd (t r : Tr) : Prop where
  pos : 0 < r.length
  le : r.length ≤ t.length
  idx : TrIdx r
  last : ∀ (β : Type) (d : β) (f : Str → List β → β), (foldV d f r)[r.length - 1]? = (foldV d f t)[t.length - 1]?
  each : ∀ k, k < r.length → ∃ a, a < t.length ∧ ∀ (β : Type) (d : β) (f : Str → List β → β), (foldV d f r)[k]? = (foldV d f t)[a]?
theorem PInv.fin {t : Tr} {n : Nat} (h : PInv t (runP t n)) (hl : (runP t n).left = []) : PlEnd t (runP t n).rows := by
  rcases h.base with ⟨pre, b, e, _⟩ | ⟨_, k, hk, e⟩
  · rw [hl] at e
    cases pre <;> cases e
  · have hm := ownAt_mem hk
    refine ⟨by omega, h.sizes.2, h.idx, fun β d f => ?_, fun j hj => ?_⟩
    · have := h.same _ hm β d f
      rw [← e, Nat.add_sub_cancel]
      exact this
    · obtain ⟨a, ha⟩ := runP_own n j hj
      exact ⟨a, (h.ownl _ ha).1, fun β d f => h.same _ ha β d f⟩
theorem PlEnd.size {t r : Tr} (h : PlEnd t r) {k : Nat} (hk : k < r.length) : ∃ a, a < t.length ∧ szT r k = szT t a := by
  obtain ⟨a, la, e⟩ := h.each k hk
  refine ⟨a, la, ?_⟩
  unfold szT
  rw [List.getD_eq_getElem?_getD, List.getD_eq_getElem?_getD, e]
end Bk
set_option Elab.async false
/-! Bk45: dict(zip(a, b, strict=True)). -/
namespace Bk
open PySem PySem.Spec PyProof.Rows L2
end Bk
set_option Elab.async false
/-! Bk46: slices of tuples from their beginning. -/
namespace Bk
open PySem PySem.Spec PyProof.Rows L2
theorem Reps.take {H : Hp} : ∀ {ds : List D} {vs : List V} (k : Nat), Reps H ds vs → Reps H (ds.take k) (vs.take k)
  | ds, vs, 0, _ => by simp only [List.take_zero, Reps]
  | [], vs, k + 1, h => by
    simp only [Reps] at h
    subst h
    simp only [List.take_nil, Reps]
  | d :: ds, vs, k + 1, h => by
    obtain ⟨v, r, rfl, hv, hr⟩ := h
    exact ⟨v, r.take k, rfl, hv, Reps.take k hr⟩
end Bk
set_option Elab.async false
/-! Bk47: dicts by marks: setdefault, len, list. -/
namespace Bk
open PySem PySem.Spec PyProof.Rows L2
end Bk
set_option Elab.async false
/-! Bk48: the plain tree as a function of the tree alone. -/
namespace Bk
open PySem PySem.Spec PyProof.Rows L2
inductive PT where
  | node (s : Str) (ps : List PT)
instance : Inhabited PT := ⟨.node "" []⟩
mutual
def goT : PT → Tr → Tr × Nat
  | .node s ps, rows =>
    let r := goL ps rows
    match markIx r.1 (s, r.2.map fun n => ((n : Nat) : Int)) with
    | some k => (r.1, k)
    | none => (r.1 ++ [(s, r.2.map fun n => ((n : Nat) : Int))], r.1.length)
def goL : List PT → Tr → Tr × List Nat
  | [], rows => (rows, [])
  | p :: ps, rows =>
    let r := goT p rows
    let r2 := goL ps r.1
    (r2.1, r.2 :: r2.2)
end
def mkI (s : Str) (ks : List Nat) : Mark := (s, ks.map fun n => ((n : Nat) : Int))
theorem goT_node {s : Str} {ps : List PT} {rows : Tr} : goT (.node s ps) rows = match markIx (goL ps rows).1 (mkI s (goL ps rows).2) with
    | some k => ((goL ps rows).1, k)
    | none => ((goL ps rows).1 ++ [mkI s (goL ps rows).2], (goL ps rows).1.length) := by
  rw [goT]
  rfl
theorem goL_cons {p : PT} {ps : List PT} {rows : Tr} : goL (p :: ps) rows = ((goL ps (goT p rows).1).1, (goT p rows).2 :: (goL ps (goT p rows).1).2) := by rw [goL]
theorem goL_nil {rows : Tr} : goL [] rows = (rows, []) := by rw [goL]
mutual
theorem goT_ext : ∀ (p : PT) (rows : Tr), ∃ e, (goT p rows).1 = rows ++ e
  | .node s ps, rows => by
    obtain ⟨e, h⟩ := goL_ext ps rows
    rw [goT_node]
    split
    · exact ⟨e, h⟩
    · exact ⟨e ++ [mkI s (goL ps rows).2], by rw [← List.append_assoc, ← h]⟩
theorem goL_ext : ∀ (ps : List PT) (rows : Tr), ∃ e, (goL ps rows).1 = rows ++ e
  | [], rows => ⟨[], by rw [goL_nil, List.append_nil]⟩
  | p :: ps, rows => by
    obtain ⟨e, h⟩ := goT_ext p rows
    obtain ⟨f, g⟩ := goL_ext ps (goT p rows).1
    rw [goL_cons]
    exact ⟨e ++ f, by show (goL ps (goT p rows).1).1 = _; rw [g, h, List.append_assoc]⟩
end
theorem markIx_app {rows e : Tr} {m : Mark} {k : Nat} (h : markIx rows m = some k) : markIx (rows ++ e) m = some k := by
  unfold markIx at h ⊢
  rw [List.findIdx?_append, h]
  rfl
theorem markIx_last {rows : Tr} {m : Mark} (h : markIx rows m = none) : markIx (rows ++ [m]) m = some rows.length := by
  unfold markIx at h ⊢
  rw [List.findIdx?_append, h]
  simp [List.findIdx?_cons]
/-- it stands there already -/
def AtT (rows : Tr) (p : PT) (k : Nat) : Prop := goT p rows = (rows, k)
def AtL (rows : Tr) (ps : List PT) (ks : List Nat) : Prop := goL ps rows = (rows, ks)
theorem app_nil {α : Type} {l e f : List α} (h : l ++ e ++ f = l) : e = [] ∧ f = [] := by
  have := congrArg List.length h
  rw [List.length_append, List.length_append] at this
  exact ⟨List.eq_nil_of_length_eq_zero (by omega), List.eq_nil_of_length_eq_zero (by omega)⟩
theorem AtT.inv {rows : Tr} {s : Str} {ps : List PT} {k : Nat} (h : AtT rows (.node s ps) k) : ∃ ks, AtL rows ps ks ∧ markIx rows (mkI s ks) = some k := by
  unfold AtT at h
  obtain ⟨e, he⟩ := goL_ext ps rows
  rw [goT_node] at h
  split at h
  · rename_i j hj
    have h1 := congrArg Prod.fst h
    have h2 := congrArg Prod.snd h
    replace h1 : (goL ps rows).1 = rows := h1
    replace h2 : j = k := h2
    refine ⟨(goL ps rows).2, ?_, ?_⟩
    · unfold AtL
      rw [Prod.ext_iff]
      exact ⟨h1, rfl⟩
    · rw [h1, h2] at hj
      exact hj
  · exfalso
    have h1 := congrArg (fun x => x.1.length) h
    replace h1 : ((goL ps rows).1 ++ [mkI s (goL ps rows).2]).length = rows.length := h1
    rw [he, List.length_append, List.length_append, List.length_singleton] at h1
    omega
theorem AtT.mk {rows : Tr} {s : Str} {ps : List PT} {ks : List Nat} {k : Nat} (h : AtL rows ps ks) (m : markIx rows (mkI s ks) = some k) : AtT rows (.node s ps) k := by
  unfold AtT AtL at *
  rw [goT_node, h]
  show (match markIx rows (mkI s ks) with | some k => (rows, k) | none => _) = _
  rw [m]
theorem AtL.inv {rows : Tr} {p : PT} {ps : List PT} {ks : List Nat} (h : AtL rows (p :: ps) ks) : ∃ k ks', ks = k :: ks' ∧ AtT rows p k ∧ AtL rows ps ks' := by
  unfold AtL at h
  rw [goL_cons] at h
  obtain ⟨e, he⟩ := goT_ext p rows
  obtain ⟨f, hf⟩ := goL_ext ps (goT p rows).1
  have h1 := congrArg Prod.fst h
  have h2 := congrArg Prod.snd h
  replace h1 : (goL ps (goT p rows).1).1 = rows := h1
  replace h2 : (goT p rows).2 :: (goL ps (goT p rows).1).2 = ks := h2
  have z := h1
  rw [hf, he] at z
  obtain ⟨z1, z2⟩ := app_nil z
  have g1 : (goT p rows).1 = rows := by rw [he, z1, List.append_nil]
  rw [g1] at h1 h2
  exact ⟨_, _, h2.symm, Prod.ext g1 rfl, Prod.ext h1 rfl⟩
theorem AtL.mk {rows : Tr} {p : PT} {ps : List PT} {k : Nat} {ks : List Nat} (h : AtT rows p k) (t : AtL rows ps ks) : AtL rows (p :: ps) (k :: ks) := by
  unfold AtT AtL at *
  rw [goL_cons, h]
  show ((goL ps rows).1, k :: (goL ps rows).2) = _
  rw [t]
mutual
theorem AtT.app : ∀ (p : PT) {rows : Tr} {k : Nat} (e : Tr), AtT rows p k → AtT (rows ++ e) p k
  | .node s ps, rows, k, e, h => by
    obtain ⟨ks, h1, h2⟩ := h.inv
    exact AtT.mk (AtL.app ps e h1) (markIx_app h2)
theorem AtL.app : ∀ (ps : List PT) {rows : Tr} {ks : List Nat} (e : Tr), AtL rows ps ks → AtL (rows ++ e) ps ks
  | [], rows, ks, e, h => by
    have : ks = [] := by
      unfold AtL at h
      rw [goL_nil] at h
      exact (congrArg Prod.snd h).symm
    subst this
    unfold AtL
    rw [goL_nil]
  | p :: ps, rows, ks, e, h => by
    obtain ⟨k, ks', rfl, h1, h2⟩ := h.inv
    exact AtL.mk (AtT.app p e h1) (AtL.app ps e h2)
end
mutual
theorem go_at : ∀ (p : PT) (rows : Tr), AtT (goT p rows).1 p (goT p rows).2
  | .node s ps, rows => by
    have ih := go_atL ps rows
    rw [goT_node]
    split
    · rename_i k hk
      exact AtT.mk ih hk
    · rename_i hk
      exact AtT.mk (AtL.app ps _ ih) (markIx_last hk)
theorem go_atL : ∀ (ps : List PT) (rows : Tr), AtL (goL ps rows).1 ps (goL ps rows).2
  | [], rows => by
    unfold AtL
    rw [goL_nil, goL_nil]
  | p :: ps, rows => by
    have h1 := go_at p rows
    have h2 := go_atL ps (goT p rows).1
    obtain ⟨f, hf⟩ := goL_ext ps (goT p rows).1
    rw [goL_cons]
    refine AtL.mk ?_ h2
    show AtT (goL ps (goT p rows).1).1 p _
    rw [hf]
    exact AtT.app p f h1
end
/-! ### the run from any state -/
def trP (t : Tr) : List PT := foldV default PT.node t
def trA (t : Tr) (a : Nat) : PT := (trP t).getD a default
theorem trA_at {t : Tr} (ok : TrIdx t) {a : Nat} {r : Str × List Int} (h : t[a]? = some r) : trA t a = .node r.1 (r.2.map fun n => trA t n.toNat) := by
  unfold trA trP
  rw [List.getD_eq_getElem?_getD, foldV_at ok h]
  rfl
inductive StepsP (t : Tr) : PlSt → PlSt → Prop where
  | refl (s) : StepsP t s s
  | step {s u} : StepsP t (stepP t s) u → StepsP t s u
theorem StepsP.trans {t : Tr} {a b c : PlSt} (h : StepsP t a b) (g : StepsP t b c) : StepsP t a c := by
  induction h with
  | refl => exact g
  | step _ ih => exact .step (ih g)
def OwnOk (t : Tr) (rows : Tr) (own : List (Nat × Nat)) : Prop := ∀ a k, ownAt own a = some k → AtT rows (trA t a) k
theorem OwnOk.app {t rows e : Tr} {own : List (Nat × Nat)} (h : OwnOk t rows own) : OwnOk t (rows ++ e) own := fun a k hk => AtT.app _ e (h a k hk)
theorem ownAt_snoc {own : List (Nat × Nat)} {a k : Nat} (h : ownAt own a = none) : ownAt (own ++ [(a, k)]) a = some k := by
  rw [ownAt_app, h, if_pos rfl]
  rfl
/-- what one tree's part of the run does -/
structure Does (t : Tr) (rows : Tr) (own : List (Nat × Nat)) (rows' : Tr) (own' : List (Nat × Nat)) (b : Nat) : Prop where
  ok : OwnOk t rows' own'
  keep : ∀ a k, ownAt own a = some k → ownAt own' a = some k
  low : ∀ a k, ownAt own' a = some k → ownAt own a = some k ∨ a < b
theorem Does.refl {t rows : Tr} {own : List (Nat × Nat)} (h : OwnOk t rows own) (b : Nat) : Does t rows own rows own b := ⟨h, fun _ _ z => z, fun _ _ z => .inl z⟩
theorem Does.trans {t r1 r2 r3 : Tr} {o1 o2 o3 : List (Nat × Nat)} {b : Nat} (h : Does t r1 o1 r2 o2 b) (g : Does t r2 o2 r3 o3 b) : Does t r1 o1 r3 o3 b := ⟨g.ok, fun a k z => g.keep a k (h.keep a k z), fun a k z => by
  rcases g.low a k z with z | z
  · exact h.low a k z
  · exact .inr z⟩
theorem Does.le {t r1 r2 : Tr} {o1 o2 : List (Nat × Nat)} {b c : Nat} (h : Does t r1 o1 r2 o2 b) (l : b ≤ c) : Does t r1 o1 r2 o2 c := ⟨h.ok, h.keep, fun a k z => (h.low a k z).imp id fun z => Nat.lt_of_lt_of_le z l⟩
theorem run_list {t : Tr} {b : Nat} (one : ∀ (a : Nat) (left : List (Nat × Bool)) (rows : Tr) (own : List (Nat × Nat)), a < b → OwnOk t rows own → ∃ own', StepsP t ⟨(a, false) :: left, rows, own⟩ ⟨left, (goT (trA t a) rows).1, own'⟩ ∧ ownAt own' a = some (goT (trA t a) rows).2 ∧ Does t rows own (goT (trA t a) rows).1 own' (a + 1)) :
    ∀ (ns : List Int) (left : List (Nat × Bool)) (rows : Tr) (own : List (Nat × Nat)), (∀ n ∈ ns, n.toNat < b) → OwnOk t rows own →
      ∃ own', StepsP t ⟨ns.map (fun n => (n.toNat, false)) ++ left, rows, own⟩ ⟨left, (goL (ns.map fun n => trA t n.toNat) rows).1, own'⟩ ∧ ns.map (fun n => ownAt own' n.toNat) = (goL (ns.map fun n => trA t n.toNat) rows).2.map some ∧ Does t rows own (goL (ns.map fun n => trA t n.toNat) rows).1 own' b
  | [], left, rows, own, _, ok => ⟨own, by simp only [List.map_nil, goL_nil]; exact .refl _, by simp only [List.map_nil, goL_nil], by simp only [List.map_nil, goL_nil]; exact Does.refl ok b⟩
  | n :: ns, left, rows, own, hb, ok => by
    obtain ⟨o1, s1, a1, d1⟩ := one n.toNat (ns.map (fun n => (n.toNat, false)) ++ left) rows own (hb n List.mem_cons_self) ok
    obtain ⟨o2, s2, a2, d2⟩ := run_list one ns left (goT (trA t n.toNat) rows).1 o1 (fun m hm => hb m (List.mem_cons_of_mem _ hm)) d1.ok
    have hn := hb n List.mem_cons_self
    simp only [List.map_cons, goL_cons]
    refine ⟨o2, s1.trans s2, ?_, (d1.le (by omega)).trans d2⟩
    show ownAt o2 n.toNat :: _ = some _ :: _
    rw [d2.keep _ _ a1, a2]
theorem run_one {t : Tr} (ok : TrIdx t) : ∀ (b a : Nat) (left : List (Nat × Bool)) (rows : Tr) (own : List (Nat × Nat)), a < b → a < t.length → OwnOk t rows own →
    ∃ own', StepsP t ⟨(a, false) :: left, rows, own⟩ ⟨left, (goT (trA t a) rows).1, own'⟩ ∧ ownAt own' a = some (goT (trA t a) rows).2 ∧ Does t rows own (goT (trA t a) rows).1 own' (a + 1)
  | 0, a, _, _, _, h, _, _ => absurd h (Nat.not_lt_zero _)
  | b + 1, a, left, rows, own, hab, la, okk => by
    cases c : ownAt own a with
    | some k =>
      have h := okk a k c
      unfold AtT at h
      rw [h]
      exact ⟨own, .step (by rw [stepP_there c]; exact .refl _), c, Does.refl okk _⟩
    | none =>
      obtain ⟨r, er⟩ : ∃ r, t[a]? = some r := ⟨_, List.getElem?_eq_getElem la⟩
      have ra := rowAt_eq er
      have rix := ok a r er
      obtain ⟨o1, s1, a1, d1⟩ := run_list (t := t) (b := a) (fun a' left' rows' own' h1 h2 => run_one ok b a' left' rows' own' (by omega) (by omega) h2) r.2 ((a, true) :: left) rows own (fun n hn => by have := rix.2 n hn; omega) okk
      have n1 : ownAt o1 a = none := by
        cases z : ownAt o1 a with
        | none => rfl
        | some k =>
          rcases d1.low a k z with z | z
          · rw [c] at z
            cases z
          · exact absurd z (Nat.lt_irrefl _)
      have et := trA_at ok er
      have ms : markOf t o1 a = mkI r.1 (goL (r.2.map fun n => trA t n.toNat) rows).2 := by
        unfold markOf mkI
        rw [ra]
        refine Prod.ext rfl ?_
        show r.2.map (fun n => (((ownAt o1 n.toNat).getD 0 : Nat) : Int)) = _
        have := congrArg (List.map fun x : Option Nat => ((x.getD 0 : Nat) : Int)) a1
        rw [List.map_map, List.map_map] at this
        exact this
      have st : StepsP t ⟨(a, false) :: left, rows, own⟩ ⟨(a, true) :: left, (goL (r.2.map fun n => trA t n.toNat) rows).1, o1⟩ := .step (by rw [stepP_open c, ra]; exact s1)
      rw [et, goT_node]
      have hk := go_at (trA t a) rows
      rw [et, goT_node] at hk
      cases cm : markIx (goL (r.2.map fun n => trA t n.toNat) rows).1 (mkI r.1 (goL (r.2.map fun n => trA t n.toNat) rows).2) with
      | some k =>
        rw [cm] at hk
        refine ⟨o1 ++ [(a, k)], st.trans (.step (by rw [stepP_old n1 (by rw [ms]; exact cm)]; exact .refl _)), ownAt_snoc n1, fun x k' hx => ?_, fun x k' hx => ?_, fun x k' hx => ?_⟩
        · rw [ownAt_app] at hx
          cases z : ownAt o1 x with
          | some y => rw [z] at hx; cases hx; exact d1.ok x k' z
          | none =>
            rw [z] at hx
            by_cases e : a = x
            · rw [if_pos e] at hx
              cases hx
              subst e
              rw [et]
              exact hk
            · rw [if_neg e] at hx
              cases hx
        · rw [ownAt_app, d1.keep x k' hx]
          rfl
        · rw [ownAt_app] at hx
          cases z : ownAt o1 x with
          | some y =>
            rw [z] at hx
            cases hx
            rcases d1.low x k' z with z | z
            · exact .inl z
            · exact .inr (Nat.lt_succ_of_lt z)
          | none =>
            rw [z] at hx
            by_cases e : a = x
            · exact .inr (by omega)
            · rw [if_neg e] at hx
              cases hx
      | none =>
        rw [cm] at hk
        refine ⟨o1 ++ [(a, (goL (r.2.map fun n => trA t n.toNat) rows).1.length)], st.trans (.step (by rw [stepP_new n1 (by rw [ms]; exact cm), ms]; exact .refl _)), ownAt_snoc n1, fun x k' hx => ?_, fun x k' hx => ?_, fun x k' hx => ?_⟩
        · rw [ownAt_app] at hx
          cases z : ownAt o1 x with
          | some y => rw [z] at hx; cases hx; exact AtT.app _ _ (d1.ok x k' z)
          | none =>
            rw [z] at hx
            by_cases e : a = x
            · rw [if_pos e] at hx
              cases hx
              subst e
              rw [et]
              exact hk
            · rw [if_neg e] at hx
              cases hx
        · rw [ownAt_app, d1.keep x k' hx]
          rfl
        · rw [ownAt_app] at hx
          cases z : ownAt o1 x with
          | some y =>
            rw [z] at hx
            cases hx
            rcases d1.low x k' z with z | z
            · exact .inl z
            · exact .inr (Nat.lt_succ_of_lt z)
          | none =>
            rw [z] at hx
            by_cases e : a = x
            · exact .inr (by omega)
            · rw [if_neg e] at hx
              cases hx
/-- the plain tree -/
def plainF (t : Tr) : Tr := (goT (trA t (t.length - 1)) []).1
theorem runP_steps {t : Tr} {u : PlSt} : ∀ {s : PlSt}, StepsP t s u → ∀ n, s = runP t n → ∃ m, n ≤ m ∧ u = runP t m := by
  intro s h
  induction h with
  | refl s => exact fun n e => ⟨n, Nat.le_refl _, e⟩
  | step _ ih =>
    intro n e
    obtain ⟨m, h1, h2⟩ := ih (n + 1) (by rw [e]; rfl)
    exact ⟨m, by omega, h2⟩
theorem runP_stays {t : Tr} {n : Nat} (h : (runP t n).left = []) : ∀ m, n ≤ m → runP t m = runP t n := by
  intro m hm
  induction m with
  | zero => have : n = 0 := by omega
            rw [this]
  | succ m ih =>
    by_cases c : n = m + 1
    · rw [c]
    · rw [show runP t (m + 1) = stepP t (runP t m) from rfl, ih (by omega)]
      generalize runP t n = s at h
      obtain ⟨l, r, o⟩ := s
      replace h : l = [] := h
      subst h
      rfl
theorem runP_ends {t : Tr} (ok : TrIdx t) (h : 0 < t.length) : ∃ m, (runP t m).left = [] ∧ (runP t m).rows = plainF t := by
  obtain ⟨o, s, _, _⟩ := run_one ok t.length (t.length - 1) [] [] [] (by omega) (by omega) (fun a k z => nomatch z)
  obtain ⟨m, _, e⟩ := runP_steps s 0 rfl
  exact ⟨m, by rw [← e], by rw [← e]; rfl⟩
end Bk
set_option Elab.async false
/-! Bk49: the unlike trees of a tree's rows; the plain tree by them. -/
namespace Bk
open PySem PySem.Spec PyProof.Rows L2
/-! ### a list or a tuple walked -/
/-! ### unlike rows -/
def unlStep (s : Tr × List Nat) (r : Str × List Int) : Tr × List Nat :=
  let m := mkI r.1 (r.2.map fun (n : Int) => s.2.getD n.toNat 0)
  match markIx s.1 m with
  | some k => (s.1, s.2 ++ [k])
  | none => (s.1 ++ [m], s.2 ++ [s.1.length])
def unlF (t : Tr) : Tr × List Nat := t.foldl unlStep ([], [])
theorem unlF_snoc {t : Tr} {r : Str × List Int} : unlF (t ++ [r]) = unlStep (unlF t) r := by
  unfold unlF
  rw [List.foldl_append]
  rfl
theorem unlF_take {t : Tr} {i : Nat} {r : Str × List Int} (h : t[i]? = some r) : unlF (t.take (i + 1)) = unlStep (unlF (t.take i)) r := by rw [take_at h, unlF_snoc]
structure Unl (t U : Tr) (num : List Nat) : Prop where
  len : num.length = t.length
  lt : ∀ (i k : Nat), num[i]? = some k → k < U.length
  nd : U.Nodup
  idx : TrIdx U
  le : U.length ≤ t.length
  same : ∀ (i k : Nat), num[i]? = some k → ∀ (β : Type) (d : β) (f : Str → List β → β), (foldV d f U)[k]? = (foldV d f t)[i]?
theorem Unl.step {t U : Tr} {num : List Nat} {r : Str × List Int} (h : Unl t U num) (ok : TrIdx (t ++ [r])) : Unl (t ++ [r]) (unlStep (U, num) r).1 (unlStep (U, num) r).2 := by
  have er : (t ++ [r])[t.length]? = some r := by rw [List.getElem?_append_right (Nat.le_refl _), Nat.sub_self]; rfl
  have rix := ok t.length r er
  obtain ⟨m, em⟩ : ∃ m, m = mkI r.1 (r.2.map fun (n : Int) => num.getD n.toNat 0) := ⟨_, rfl⟩
  have em2 : m = (r.1, (r.2.map fun (n : Int) => num.getD n.toNat 0).map fun n => ((n : Nat) : Int)) := em
  have mnum : ∀ n ∈ r.2, num[n.toNat]? = some (num.getD n.toNat 0) := fun n hn => by
    have := rix.2 n hn
    rw [List.getD_eq_getElem?_getD, List.getElem?_eq_getElem (by rw [h.len]; omega)]
    rfl
  have hval : ∀ (β : Type) (d : β) (f : Str → List β → β), f m.1 (m.2.map fun n => (foldV d f U).getD n.toNat d) = f r.1 (r.2.map fun n => (foldV d f t).getD n.toNat d) := fun β d f => by
    rw [em2]
    show f r.1 (((r.2.map fun (n : Int) => num.getD n.toNat 0).map fun n => ((n : Nat) : Int)).map fun n => (foldV d f U).getD n.toNat d) = _
    rw [List.map_map, List.map_map]
    congr 1
    refine List.map_congr_left fun n hn => ?_
    show (foldV d f U).getD ((num.getD n.toNat 0 : Nat) : Int).toNat d = _
    rw [Int.toNat_natCast, List.getD_eq_getElem?_getD (l := foldV d f U), List.getD_eq_getElem?_getD (l := foldV d f t), h.same _ _ (mnum n hn) β d f]
  have vt : ∀ (β : Type) (d : β) (f : Str → List β → β), (foldV d f (t ++ [r]))[t.length]? = some (f m.1 (m.2.map fun n => (foldV d f U).getD n.toNat d)) := fun β d f => by
    rw [hval β d f, foldV_snoc, List.getElem?_append_right (by rw [foldV_len]; exact Nat.le_refl _), foldV_len, Nat.sub_self]
    rfl
  have told : ∀ (i : Nat), i < t.length → ∀ (β : Type) (d : β) (f : Str → List β → β), (foldV d f (t ++ [r]))[i]? = (foldV d f t)[i]? := fun i hi β d f => by
    rw [foldV_snoc, List.getElem?_append_left (by rw [foldV_len]; exact hi)]
  have mlen : m.2.length ≤ 2 := by rw [em2]; show (List.map _ (List.map _ r.2)).length ≤ 2; rw [List.length_map, List.length_map]; exact rix.1
  have mrow : ∀ n ∈ m.2, 0 ≤ n ∧ n < (U.length : Int) := fun n hn => by
    rw [em2] at hn
    obtain ⟨x, hx, rfl⟩ := List.mem_map.1 hn
    obtain ⟨y, hy, rfl⟩ := List.mem_map.1 hx
    have := h.lt _ _ (mnum y hy)
    omega
  have snoc_get : ∀ {k0 i k : Nat}, (num ++ [k0])[i]? = some k → (i < t.length ∧ num[i]? = some k) ∨ (i = t.length ∧ k = k0) := fun {k0 i k} hk => by
    by_cases c : i < num.length
    · rw [List.getElem?_append_left c] at hk
      exact .inl ⟨by rw [← h.len]; exact c, hk⟩
    · rw [List.getElem?_append_right (by omega)] at hk
      have e : i = num.length := by
        have := (List.getElem?_eq_some_iff.1 hk).1
        rw [List.length_singleton] at this
        omega
      subst e
      rw [Nat.sub_self] at hk
      cases hk
      exact .inr ⟨h.len, rfl⟩
  cases cm : markIx U m with
  | some k0 =>
    have es : unlStep (U, num) r = (U, num ++ [k0]) := by
      show (match markIx U (mkI r.1 (r.2.map fun (n : Int) => num.getD n.toNat 0)) with | some k => (U, num ++ [k]) | none => (U ++ [mkI r.1 (r.2.map fun (n : Int) => num.getD n.toNat 0)], num ++ [U.length])) = _
      rw [← em, cm]
    rw [es]
    have hk := markIx_some cm
    refine ⟨by rw [List.length_append, List.length_append, h.len]; rfl, fun i k hik => ?_, h.nd, h.idx, by rw [List.length_append]; have := h.le; show U.length ≤ _; omega, fun i k hik β d f => ?_⟩
    · rcases snoc_get hik with ⟨_, z⟩ | ⟨_, rfl⟩
      · exact h.lt i k z
      · exact (List.getElem?_eq_some_iff.1 hk).1
    · rcases snoc_get hik with ⟨li, z⟩ | ⟨rfl, rfl⟩
      · rw [told i li]
        exact h.same i k z β d f
      · rw [vt, foldV_at h.idx hk]
  | none =>
    have es : unlStep (U, num) r = (U ++ [m], num ++ [U.length]) := by
      show (match markIx U (mkI r.1 (r.2.map fun (n : Int) => num.getD n.toNat 0)) with | some k => (U, num ++ [k]) | none => (U ++ [mkI r.1 (r.2.map fun (n : Int) => num.getD n.toNat 0)], num ++ [U.length])) = _
      rw [← em, cm]
    rw [es]
    have hm := markIx_none cm
    refine ⟨by rw [List.length_append, List.length_append, h.len]; rfl, fun i k hik => ?_, ?_, h.idx.snoc mlen mrow, by show (U ++ [m]).length ≤ _; rw [List.length_append, List.length_append]; have := h.le; simp; omega, fun i k hik β d f => ?_⟩
    · show k < (U ++ [m]).length
      rw [List.length_append, List.length_singleton]
      rcases snoc_get hik with ⟨_, z⟩ | ⟨_, rfl⟩
      · have := h.lt i k z
        omega
      · omega
    · refine List.nodup_append.2 ⟨h.nd, List.nodup_cons.2 ⟨fun z => (nomatch z), List.nodup_nil⟩, fun x hx y hy => ?_⟩
      rw [List.mem_singleton.1 hy]
      intro z
      rw [z] at hx
      exact hm hx
    · show (foldV d f (U ++ [m]))[k]? = _
      rcases snoc_get hik with ⟨li, z⟩ | ⟨rfl, rfl⟩
      · rw [told i li, foldV_app h.idx m (h.lt i k z)]
        exact h.same i k z β d f
      · rw [vt, foldV_snoc, List.getElem?_append_right (by rw [foldV_len]; exact Nat.le_refl _), foldV_len, Nat.sub_self]
        rfl
theorem Unl.of {t : Tr} (ok : TrIdx t) : ∀ i, i ≤ t.length → Unl (t.take i) (unlF (t.take i)).1 (unlF (t.take i)).2
  | 0, _ => by
    rw [List.take_zero]
    exact ⟨rfl, fun i k h => by simp [unlF] at h, List.nodup_nil, fun i r h => by simp [unlF] at h, Nat.le_refl _, fun i k h => by simp [unlF] at h⟩
  | i + 1, hi => by
    have li : i < t.length := hi
    have er := List.getElem?_eq_getElem li
    have ih := Unl.of ok i (Nat.le_of_lt li)
    rw [unlF_take er]
    rw [take_at er]
    exact ih.step (by rw [← take_at er]; exact ok.take _)
theorem Unl.all {t : Tr} (ok : TrIdx t) : Unl t (unlF t).1 (unlF t).2 := by
  have := Unl.of ok t.length (Nat.le_refl _)
  rw [List.take_length] at this
  exact this
/-! ### unlike rows are unlike trees -/
/-- the size and other values of the plain tree -/
theorem plain_end {t : Tr} (ok : TrIdx t) (h : 0 < t.length) : PlEnd t (plainF t) := by
  obtain ⟨m, h1, h2⟩ := runP_ends ok h
  have inv : ∀ n, PInv t (runP t n) := by
    intro n
    induction n with
    | zero => exact PInv.start h
    | succ n ih =>
      by_cases c : (runP t n).left = []
      · rw [runP_stays c (n + 1) (Nat.le_succ n)]
        exact ih
      · exact (ih.step ok c).1
  rw [← h2]
  exact (inv m).fin h1
theorem runP_inv {t : Tr} (ok : TrIdx t) (h : 0 < t.length) (n : Nat) : PInv t (runP t n) := by
  induction n with
  | zero => exact PInv.start h
  | succ n ih =>
    by_cases c : (runP t n).left = []
    · rw [runP_stays c (n + 1) (Nat.le_succ n)]
      exact ih
    · exact (ih.step ok c).1
/-! ### contracts -/
end Bk
set_option Elab.async false
/-! Bk50: the plain tree by the unlike rows; patterns laid. -/
namespace Bk
open PySem PySem.Spec PyProof.Rows L2
/-! ### the unlike trees up to the whole -/
end Bk
set_option Elab.async false
/-! Bk51: any data compared; patterns laid; what a turned tree is. -/
namespace Bk
open PySem PySem.Spec PyProof.Rows L2
/-! ### any data compared -/
/-! ### patterns -/
abbrev PtR := Str × (Int ⊕ List Int)
abbrev Pt := List PtR
/-! ### a pattern laid behind rows -/
theorem trIdx_snoc {t : Tr} {r : Str × List Int} (ok : TrIdx t) (h2 : r.2.length ≤ 2) (h : ∀ n ∈ r.2, 0 ≤ n ∧ n < (t.length : Int)) : TrIdx (t ++ [r]) := fun i q hq => by
  by_cases c : i < t.length
  · rw [List.getElem?_append_left c] at hq
    exact ok i q hq
  · rw [List.getElem?_append_right (by omega)] at hq
    have : i = t.length := by
      have := (List.getElem?_eq_some_iff.1 hq).1
      rw [List.length_singleton] at this
      omega
    subst this
    rw [Nat.sub_self] at hq
    cases hq
    exact ⟨h2, h⟩
/-! ### what it means -/
/-! ### a tree turned -/
end Bk
set_option Elab.async false
/-! Bk52: list.remove of any data; patterns drawn. -/
namespace Bk
open PySem PySem.Spec PyProof.Rows L2
/-! ### list.remove -/
/-! ### patterns and kinds -/
structure PtKs (w : Wd) (pk ks : List Int) (p : Pt) : Prop where
  len : ks.length = p.length
  prt : ∀ (i : Nat) (r : PtR) (k : Int), p[i]? = some r → r.2 = .inl k → r.1 = "part" ∧ 0 ≤ k ∧ k.toNat < pk.length ∧ ks[i]? = pk[k.toNat]?
  mkr : ∀ (i : Nat) (r : PtR) (ns : List Int), p[i]? = some r → r.2 = .inr ns → ∃ e, mkOf w r.1 = some e ∧ ns.length = (dueOf w e).length ∧ ks[i]? = some (e.1 : Int) ∧ ∀ (j : Nat) (n : Int), ns[j]? = some n → 0 ≤ n ∧ n.toNat < i ∧ ks[n.toNat]? = (dueOf w e)[j]?
theorem due_two {w : Wd} (ok : WoodOk w) {e : Nat × Mk} (he : e ∈ tabFrom 0 w) : (dueOf w e).length ≤ 2 := by
  obtain ⟨_, h, h2, _⟩ := dueOf_in ok he
  omega
instance : Inhabited PtR := ⟨("", .inl 0)⟩
theorem PtKs.nil {w : Wd} {pk : List Int} : PtKs w pk [] [] := ⟨rfl, fun i r k h => by simp at h, fun i r ns h => by simp at h⟩
theorem PtKs.part {w : Wd} {pk ks : List Int} {p : Pt} (h : PtKs w pk ks p) {k kd : Int} (k0 : 0 ≤ k) (k1 : k.toNat < pk.length) (hk : pk[k.toNat]? = some kd) : PtKs w pk (ks ++ [kd]) (p ++ ([(("part" : Str), Sum.inl k)] : Pt)) := by
  have l := h.len
  refine ⟨by rw [List.length_append, List.length_append, l]; rfl, fun i r x hr hx => ?_, fun i r ns hr hn => ?_⟩
  · by_cases c : i < p.length
    · rw [List.getElem?_append_left c] at hr
      rw [List.getElem?_append_left (by omega)]
      exact h.prt i r x hr hx
    · rw [List.getElem?_append_right (by omega)] at hr
      have : i = p.length := by
        have := (List.getElem?_eq_some_iff.1 hr).1
        rw [List.length_singleton] at this
        omega
      subst this
      rw [Nat.sub_self] at hr
      cases hr
      cases hx
      refine ⟨rfl, k0, k1, ?_⟩
      rw [List.getElem?_append_right (by omega), ← l, Nat.sub_self, hk]
      rfl
  · by_cases c : i < p.length
    · rw [List.getElem?_append_left c] at hr
      obtain ⟨e, h1, h2, h3, h4⟩ := h.mkr i r ns hr hn
      refine ⟨e, h1, h2, by rw [List.getElem?_append_left (by omega)]; exact h3, fun j n hj => ?_⟩
      obtain ⟨a, b, d⟩ := h4 j n hj
      exact ⟨a, b, by rw [List.getElem?_append_left (by omega)]; exact d⟩
    · rw [List.getElem?_append_right (by omega)] at hr
      have : i = p.length := by
        have := (List.getElem?_eq_some_iff.1 hr).1
        rw [List.length_singleton] at this
        omega
      subst this
      rw [Nat.sub_self] at hr
      cases hr
      cases hn
/-- each row from a on, but the last one, is named by a later one -/
def Used (a b : Nat) (p : Pt) : Prop := ∀ i, a ≤ i → i + 1 < b → ∃ (j : Nat) (r : PtR) (ns : List Int), i < j ∧ j < b ∧ p[j]? = some r ∧ r.2 = .inr ns ∧ (i : Int) ∈ ns
theorem Used.app {a b : Nat} {p : Pt} (h : Used a b p) (e : Pt) : Used a b (p ++ e) := fun i h1 h2 => by
  obtain ⟨j, r, ns, a1, a2, a3, a4, a5⟩ := h i h1 h2
  exact ⟨j, r, ns, a1, a2, by rw [List.getElem?_append_left (List.getElem?_eq_some_iff.1 a3).1]; exact a3, a4, a5⟩
/-! ### rows in another order -/
structure Ord (p : Pt) (ord : List Nat) : Prop where
  nd : ord.Nodup
  lt : ∀ a ∈ ord, a < p.length
  top : ∀ (j a : Nat) (r : PtR) (ns : List Int), ord[j]? = some a → p[a]? = some r → r.2 = .inr ns → ∀ n ∈ ns, n.toNat ∈ ord.take j
theorem idxOf_take {l : List Nat} {a j : Nat} (h : a ∈ l.take j) : l.idxOf a < j ∧ l[l.idxOf a]? = some a ∧ (l.take j).idxOf a = l.idxOf a := by
  have e : l.idxOf a = (l.take j).idxOf a := by
    have := List.idxOf_append (l₁ := l.take j) (l₂ := l.drop j) (a := a)
    rw [List.take_append_drop, if_pos h] at this
    exact this
  have l1 := List.idxOf_lt_length_of_mem h
  have l2 : (l.take j).length ≤ j := by rw [List.length_take]; omega
  have m : a ∈ l := List.mem_of_mem_take h
  exact ⟨by omega, by rw [List.getElem?_eq_getElem (List.idxOf_lt_length_of_mem m), List.getElem_idxOf], e.symm⟩
theorem Ord.snoc {p : Pt} {ord : List Nat} {a : Nat} (h : Ord p ord) (ha : a < p.length) (hn : a ∉ ord) (ht : ∀ (r : PtR) (ns : List Int), p[a]? = some r → r.2 = .inr ns → ∀ n ∈ ns, n.toNat ∈ ord) : Ord p (ord ++ [a]) := by
  refine ⟨List.nodup_append.2 ⟨h.nd, List.nodup_cons.2 ⟨fun z => (nomatch z), List.nodup_nil⟩, fun x hx y hy => ?_⟩, fun x hx => ?_, fun j b r ns hb hr hs n hm => ?_⟩
  · rw [List.mem_singleton.1 hy]
    exact fun z => hn (z ▸ hx)
  · rcases List.mem_append.1 hx with z | z
    · exact h.lt x z
    · rw [List.mem_singleton.1 z]
      exact ha
  · by_cases c : j < ord.length
    · rw [List.getElem?_append_left c] at hb
      rw [List.take_append_of_le_length (by omega)]
      exact h.top j b r ns hb hr hs n hm
    · rw [List.getElem?_append_right (by omega)] at hb
      have : j = ord.length := by
        have := (List.getElem?_eq_some_iff.1 hb).1
        rw [List.length_singleton] at this
        omega
      subst this
      rw [Nat.sub_self] at hb
      cases hb
      rw [List.take_left]
      exact ht r ns hr hs n hm
theorem Ord.all {p : Pt} {ord : List Nat} (h : Ord p ord) (hl : ord.length = p.length) {a : Nat} (ha : a < p.length) : a ∈ ord := by
  by_cases c : a ∈ ord
  · exact c
  · exfalso
    have := nodup_sub2 (a :: ord) (List.range p.length) (List.nodup_cons.2 ⟨c, h.nd⟩) fun x hx => by
      rcases List.mem_cons.1 hx with rfl | z
      · exact List.mem_range.2 ha
      · exact List.mem_range.2 (h.lt x z)
    rw [List.length_cons, List.length_range] at this
    omega
/-- the whole comes last -/
theorem Ord.last {p : Pt} {ord : List Nat} (o : Ord p ord) (hl : ord.length = p.length) (h0 : 0 < p.length) (u : Used 0 p.length p) : ord[p.length - 1]? = some (p.length - 1) := by
  obtain ⟨a, ha⟩ : ∃ a, ord[p.length - 1]? = some a := ⟨_, List.getElem?_eq_getElem (by omega)⟩
  rw [ha]
  have la := o.lt a (List.mem_of_getElem? ha)
  by_cases c : a + 1 < p.length
  · exfalso
    obtain ⟨j, r, ns, h1, h2, h3, h4, h5⟩ := u a (Nat.zero_le _) c
    obtain ⟨q, hq⟩ := List.mem_iff_getElem?.1 (o.all hl h2)
    have lq := (List.getElem?_eq_some_iff.1 hq).1
    have ht := o.top q j r ns hq h3 h4 _ h5
    rw [Int.toNat_natCast] at ht
    obtain ⟨t1, t2, _⟩ := idxOf_take ht
    have e1 := (List.getElem?_eq_some_iff.1 ha)
    have e2 := (List.getElem?_eq_some_iff.1 t2)
    obtain ⟨b1, b2⟩ := e1
    obtain ⟨d1, d2⟩ := e2
    have := (List.getElem_inj o.nd (h₀ := b1) (h₁ := d1)).1 (b2.trans d2.symm)
    omega
  · congr 1
    omega
/-! ### how great a pattern's rows are -/
end Bk
set_option Elab.async false
/-! Bk53: turners drawn, trees turned: contracts. -/
namespace Bk
open PySem PySem.Spec PyProof.Rows L2
/-- each kind has a maker of no parts first -/
def FullW (w : Wd) : Prop := ∀ k ∈ w, ∃ (m : Mk) (r : List Mk), k.2 = m :: r ∧ m.2 = []
theorem FullW.at {w : Wd} (h : FullW w) {g : Nat} (hg : g < w.length) : ∃ e ∈ tabFrom 0 w, e.1 = g ∧ e.2.2 = [] := by
  have ek := List.getElem?_eq_getElem hg
  obtain ⟨m, r, e1, e2⟩ := h w[g] (List.getElem_mem hg)
  refine ⟨(g, m), ?_, rfl, e2⟩
  have := tab_mem w 0 g w[g] m ek (by rw [e1]; exact List.mem_cons_self)
  rw [Nat.zero_add] at this
  exact this
/-- everything but three objects stands -/
def But3 (p l r : Addr) (H H' : Hp) : Prop := ∀ b o, b ≠ p → b ≠ l → b ≠ r → H b = some o → H' b = some o
theorem But3.refl {p l r : Addr} {H : Hp} : But3 p l r H H := fun _ _ _ _ _ h => h
theorem But3.trans {p l r : Addr} {H H1 H2 : Hp} (a : But3 p l r H H1) (b : But3 p l r H1 H2) : But3 p l r H H2 := fun x o h1 h2 h3 h => b x o h1 h2 h3 (a x o h1 h2 h3 h)
theorem But3.at_new {p l r d : Addr} {H H1 : Hp} {o : HO} (e : But3 p l r H H1) (n : H d = none) : But3 p l r H (upd H1 d o) := fun x u h1 h2 h3 h => by rw [upd_ne (ne_of_none h n)]; exact e x u h1 h2 h3 h
/-- three lists: all tuples stand -/
theorem But3.tk {p l r : Addr} {H H1 : Hp} {a b c : List V} (e : But3 p l r H H1) (h1 : H p = some (.lst a)) (h2 : H l = some (.lst b)) (h3 : H r = some (.lst c)) : Tk H H1 := fun x ys z =>
  e x _ (ne_of z h1 (fun y => nomatch y)) (ne_of z h2 (fun y => nomatch y)) (ne_of z h3 (fun y => nomatch y)) z
theorem Box.lst {H : Hp} {p : Addr} (h : Box H p) : ∃ xs, H p = some (.lst xs) := by
  obtain ⟨a, b, c, h⟩ := h
  exact ⟨_, h⟩
def natV (l : List Nat) : List V := (l.map fun n => ((n : Nat) : Int)).map V.int
theorem natV_snoc {l : List Nat} {n : Nat} : natV (l ++ [n]) = natV l ++ [.int (n : Nat)] := by
  unfold natV
  rw [List.map_append, List.map_append]
  rfl
end Bk
set_option Elab.async false
/-! Bk54: rows put in another order; things put behind others. -/
namespace Bk
open PySem PySem.Spec PyProof.Rows L2
theorem But3.free {p l r d : Addr} {H H1 : Hp} (e : But3 p l r H H1) {a b c : HO} (hp : H1 p = some a) (hl : H1 l = some b) (hr : H1 r = some c) (n : H1 d = none) : H d = none := by
  cases h : H d with
  | none => rfl
  | some o =>
    have := e d o (fun z => by rw [z, hp] at n; cases n) (fun z => by rw [z, hl] at n; cases n) (fun z => by rw [z, hr] at n; cases n) h
    rw [n] at this
    cases this
end Bk
set_option Elab.async false
/-! Bk55: full woods. -/
namespace Bk
open PySem PySem.Spec PyProof.Rows L2
/-- rows of a wood, each with a maker of no parts first -/
def FullR (R : List (List Mk)) : Prop := ∀ r ∈ R, ∃ (m : Mk) (t : List Mk), r = m :: t ∧ m.2 = []
theorem FullR.put {R : List (List Mk)} (h : FullR R) {q : Nat} {r : List Mk} (m : Mk) (hr : R[q]? = some r) : FullR (R.set q (r ++ [m])) := fun x hx => by
  rcases List.mem_or_eq_of_mem_set hx with z | rfl
  · exact h x z
  · obtain ⟨m0, t, rfl, e⟩ := h r (List.mem_of_getElem? hr)
    exact ⟨m0, t ++ [m], rfl, e⟩
end Bk
set_option Elab.async false
/-! Bk56: what a turned tree is like. -/
namespace Bk
open PySem PySem.Spec PyProof.Rows L2
/-- the names of the plain tree -/
theorem plain_names {t : Tr} {P : Str → Prop} (ok : TrIdx t) (h0 : 0 < t.length) (h : ∀ r ∈ t, P r.1) : ∀ r ∈ plainF t, P r.1 := fun r hr => by
  obtain ⟨m, h1, h2⟩ := runP_ends ok h0
  have inv := runP_inv ok h0 m
  rw [← h2] at hr
  obtain ⟨k, hk⟩ := List.mem_iff_getElem?.1 hr
  obtain ⟨a, la, e, _⟩ := inv.rowl k r hk
  have ea := List.getElem?_eq_getElem la
  rw [rowAt_eq ea] at e
  rw [e]
  exact h _ (List.getElem_mem la)
theorem sizesM {α : Type} {f : α → D} {k : Nat} : ∀ {as : List α}, (∀ a ∈ as, (f a).size ≤ k) → D.sizes (as.map f) ≤ k * as.length
  | [], _ => Nat.zero_le _
  | a :: as, h => by
    have h1 := h a List.mem_cons_self
    have h2 := sizesM (as := as) fun b hb => h b (List.mem_cons_of_mem _ hb)
    show (f a).size + D.sizes (as.map f) ≤ k * (as.length + 1)
    rw [Nat.mul_succ]
    omega
theorem row_size {r : Str × List Int} (h : r.2.length ≤ 2) : (rowD r).size ≤ 5 := by
  have := sizesM (f := D.int) (k := 1) (as := r.2) fun _ _ => Nat.le_refl _
  show 1 + (1 + ((1 + D.sizes (r.2.map D.int)) + 0)) ≤ 5
  omega
theorem tree_size {t : Tr} (h : TrIdx t) : (treeD t).size ≤ 1 + 5 * t.length := by
  have := sizesM (f := rowD) (k := 5) (as := t) fun r hr => by
    obtain ⟨i, hi⟩ := List.mem_iff_getElem?.1 hr
    exact row_size (h i r hi).1
  show 1 + D.sizes (t.map rowD) ≤ _
  omega
end Bk
set_option Elab.async false
/-! Bk57: a turned tree is a tree of the second wood, and how great it is. -/
namespace Bk
open PySem PySem.Spec PyProof.Rows L2
theorem snoc_at {α : Type} {l : List α} {x y : α} {i : Nat} (h : (l ++ [x])[i]? = some y) : (i < l.length ∧ l[i]? = some y) ∨ (i = l.length ∧ x = y) := by
  by_cases c : i < l.length
  · rw [List.getElem?_append_left c] at h
    exact .inl ⟨c, h⟩
  · rw [List.getElem?_append_right (by omega)] at h
    have : i = l.length := by
      have := (List.getElem?_eq_some_iff.1 h).1
      rw [List.length_singleton] at this
      omega
    subst this
    rw [Nat.sub_self] at h
    cases h
    exact .inr ⟨rfl, rfl⟩
theorem TrW.snoc {w : Wd} {t : Tr} {row : Str × List Int} {e : Nat × Mk} (h : TrW w t) (ok : WoodOk w) (he : mkOf w row.1 = some e) (hl : row.2.length = (dueOf w e).length) (hn : ∀ (u : Nat) (n : Int), row.2[u]? = some n → 0 ≤ n ∧ n < (t.length : Int) ∧ (dueOf w e)[u]? = some (kindAt w (rowAt t n.toNat).1)) : TrW w (t ++ [row]) := by
  have two := due_two ok (mkOf_some he).1
  refine ⟨trIdx_snoc h.idx (by omega) fun n hm => ?_, fun i r hi => ?_⟩
  · obtain ⟨u, hu⟩ := List.mem_iff_getElem?.1 hm
    obtain ⟨a, b, _⟩ := hn u n hu
    exact ⟨a, b⟩
  · rcases snoc_at hi with ⟨li, hi'⟩ | ⟨rfl, rfl⟩
    · obtain ⟨j, e, pa⟩ := h.row i r hi'
      refine ⟨j, e, pa.tab, pa.nm, pa.len, pa.two, fun u n hu => ?_, pa.kind⟩
      obtain ⟨a, b, q, hq, hd⟩ := pa.idx u n hu
      exact ⟨a, b, q, by rw [List.getElem?_append_left (by omega)]; exact hq, hd⟩
    · obtain ⟨m1, m2⟩ := mkOf_some he
      obtain ⟨j, hj⟩ := List.mem_iff_getElem?.1 m1
      refine ⟨j, e, hj, m2, hl, by omega, fun u n hu => ?_, by unfold kindAt; rw [he]⟩
      obtain ⟨a, b, c⟩ := hn u n hu
      have en := List.getElem?_eq_getElem (l := t) (i := n.toNat) (by omega)
      rw [rowAt_eq en] at c
      exact ⟨a, b, t[n.toNat], by rw [List.getElem?_append_left (by omega)]; exact en, c⟩
end Bk
set_option Elab.async false
/-! Bk58: printers behind turners. -/
namespace Bk
open PySem PySem.Spec PyProof.Rows L2
/-! ### values of trees as such -/
/-! ### texts put together -/
end Bk
set_option Elab.async false
/-! Bk59: what a printer behind a turner is, and what it prints. -/
namespace Bk
open PySem PySem.Spec PyProof.Rows L2
/-! ### what it prints -/
end Bk
set_option Elab.async false
/-! Bk60: the printer behind fits; contracts. -/
namespace Bk
open PySem PySem.Spec PyProof.Rows L2
/-! ### a printer's rows -/
end Bk
set_option Elab.async false
/-! Bk61: printers behind turners: contracts, lists told anew. -/
namespace Bk
open PySem PySem.Spec PyProof.Rows L2
/-! ### o[i] += text -/
/-! ### what stands on no older list -/
/-- from later lists to older ones -/
def Ls (H0 H : Hp) : Prop := ∀ a xs, H0 a = some (.lst xs) → ∃ ys, H a = some (.lst ys)
theorem Ls.ex {H0 H : Hp} (e : Ex H0 H) : Ls H0 H := fun a xs h => ⟨xs, e _ _ h⟩
theorem Ls.trans {H0 H1 H2 : Hp} (a : Ls H0 H1) (b : Ls H1 H2) : Ls H0 H2 := fun x xs h => by
  obtain ⟨ys, h1⟩ := a x xs h
  exact b x ys h1
/-! ### a comprehension whose items may be new lists -/
/-! ### rows as lists -/
/-! ### signs -/
/-! ### contracts -/
end Bk
set_option Elab.async false
/-! Bk62: how many rows a pattern's printers have. -/
namespace Bk
open PySem PySem.Spec PyProof.Rows L2
end Bk
set_option Elab.async false
/-! Bk63: how great a printer behind is. -/
namespace Bk
open PySem PySem.Spec PyProof.Rows L2
end Bk
set_option Elab.async false
/-! Bk64: sum(.., start=k), max(.., default=k). -/
namespace Bk
open PySem PySem.Spec PyProof.Rows L2
end Bk
set_option Elab.async false
/-! Bk65: heights, sizes, the plain tree by an order of the unlike rows. -/
namespace Bk
open PySem PySem.Spec PyProof.Rows L2
def plT (p : PT) : Tr := (goT p []).1
theorem plainF_eq (t : Tr) : plainF t = plT (trA t (t.length - 1)) := rfl
theorem trA_take {t : Tr} {k a : Nat} (hk : k ≤ t.length) (ha : a < k) : trA (t.take k) a = trA t a := by
  unfold trA trP
  rw [List.getD_eq_getElem?_getD, List.getD_eq_getElem?_getD, ← foldV_pre k hk, List.getElem?_take, if_pos ha]
/-! ### heights -/
/-! ### an order of rows, each behind its parts -/
structure OrdOk (U : Tr) (ord : List Nat) : Prop where
  nd : ord.Nodup
  lt : ∀ a ∈ ord, a < U.length
  cl : ∀ (a : Nat), a ∈ ord → ∀ n ∈ (rowAt U a).2, n.toNat ∈ ord
def rowO (U : Tr) (ord : List Nat) (a : Nat) : Mark := mkI (rowAt U a).1 ((rowAt U a).2.map fun n => ord.idxOf n.toNat)
def rowsO (U : Tr) (ord : List Nat) : Tr := ord.map (rowO U ord)
theorem OrdOk.nil (U : Tr) : OrdOk U [] := ⟨List.nodup_nil, fun a z => (nomatch z), fun a z => (nomatch z)⟩
theorem OrdOk.snoc {U : Tr} {ord : List Nat} (h : OrdOk U ord) {a : Nat} (la : a < U.length) (na : a ∉ ord) (hp : ∀ n ∈ (rowAt U a).2, n.toNat ∈ ord) : OrdOk U (ord ++ [a]) := by
  refine ⟨List.nodup_append.2 ⟨h.nd, List.nodup_cons.2 ⟨fun z => (nomatch z), List.nodup_nil⟩, fun x hx y hy => ?_⟩, fun b hb => ?_, fun b hb n hn => ?_⟩
  · rw [List.mem_singleton.1 hy]
    exact fun z => na (z ▸ hx)
  · rcases List.mem_append.1 hb with z | z
    · exact h.lt b z
    · rw [List.mem_singleton.1 z]
      exact la
  · rcases List.mem_append.1 hb with z | z
    · exact List.mem_append_left _ (h.cl b z n hn)
    · rw [List.mem_singleton.1 z] at hn
      exact List.mem_append_left _ (hp n hn)
theorem rowO_snoc {U : Tr} {ord : List Nat} {a b : Nat} (hp : ∀ n ∈ (rowAt U b).2, n.toNat ∈ ord) : rowO U (ord ++ [a]) b = rowO U ord b := by
  unfold rowO
  congr 1
  refine List.map_congr_left fun n hn => ?_
  rw [List.idxOf_append, if_pos (hp n hn)]
theorem rowsO_snoc {U : Tr} {ord : List Nat} (h : OrdOk U ord) {a : Nat} (hp : ∀ n ∈ (rowAt U a).2, n.toNat ∈ ord) : rowsO U (ord ++ [a]) = rowsO U ord ++ [rowO U ord a] := by
  unfold rowsO
  rw [List.map_append, List.map_singleton, rowO_snoc hp]
  congr 1
  exact List.map_congr_left fun b hb => rowO_snoc (h.cl b hb)
theorem idx_inj {ord : List Nat} {x y : Nat} (hx : x ∈ ord) (hy : y ∈ ord) (h : ord.idxOf x = ord.idxOf y) : x = y := by
  have a := List.getElem_idxOf (List.idxOf_lt_length_iff.2 hx)
  have b := List.getElem_idxOf (List.idxOf_lt_length_iff.2 hy)
  rw [← a, ← b]
  congr 1
theorem mk_inj {U : Tr} {ord : List Nat} {a b : Nat} (ix : TrIdx U) (nd : U.Nodup) (la : a < U.length) (lb : b < U.length) (ha : ∀ n ∈ (rowAt U a).2, n.toNat ∈ ord) (hb : ∀ n ∈ (rowAt U b).2, n.toNat ∈ ord) (h : rowO U ord a = rowO U ord b) : a = b := by
  have ea := List.getElem?_eq_getElem la
  have eb := List.getElem?_eq_getElem lb
  have ra := rowAt_eq ea
  have rb := rowAt_eq eb
  unfold rowO mkI at h
  have h1 := congrArg Prod.fst h
  have h2 := congrArg Prod.snd h
  replace h1 : (rowAt U a).1 = (rowAt U b).1 := h1
  replace h2 : ((rowAt U a).2.map fun n => ord.idxOf n.toNat).map (fun n => ((n : Nat) : Int)) = ((rowAt U b).2.map fun n => ord.idxOf n.toNat).map fun n => ((n : Nat) : Int) := h2
  rw [List.map_map, List.map_map] at h2
  have key : ∀ (l m : List Int), (∀ n ∈ l, 0 ≤ n ∧ n.toNat ∈ ord) → (∀ n ∈ m, 0 ≤ n ∧ n.toNat ∈ ord) → l.map ((fun n => ((n : Nat) : Int)) ∘ fun n => ord.idxOf n.toNat) = m.map ((fun n => ((n : Nat) : Int)) ∘ fun n => ord.idxOf n.toNat) → l = m := fun l => by
    induction l with
    | nil =>
      intro m _ _ e
      cases m with
      | nil => rfl
      | cons y m => cases e
    | cons x l ih =>
      intro m hl hm e
      cases m with
      | nil => cases e
      | cons y m =>
        rw [List.map_cons, List.map_cons] at e
        injection e with e1 e2
        replace e1 : ((ord.idxOf x.toNat : Nat) : Int) = (ord.idxOf y.toNat : Nat) := e1
        obtain ⟨x0, xm⟩ := hl x List.mem_cons_self
        obtain ⟨y0, ym⟩ := hm y List.mem_cons_self
        have z := idx_inj xm ym (by omega)
        have e3 : x = y := by omega
        rw [e3, ih m (fun n hn => hl n (List.mem_cons_of_mem _ hn)) (fun n hn => hm n (List.mem_cons_of_mem _ hn)) e2]
  have h3 := key _ _ (fun n hn => ⟨by rw [ra] at hn; exact ((ix a _ ea).2 n hn).1, ha n hn⟩) (fun n hn => ⟨by rw [rb] at hn; exact ((ix b _ eb).2 n hn).1, hb n hn⟩) h2
  rw [ra, rb] at h1 h3
  have e : U[a] = U[b] := Prod.ext h1 h3
  exact (List.getElem_inj nd).1 e
theorem AtL_map {R : Tr} {f : Int → PT} {g : Int → Nat} : ∀ {ns : List Int}, (∀ n ∈ ns, AtT R (f n) (g n)) → AtL R (ns.map f) (ns.map g)
  | [], _ => by
    unfold AtL
    rw [List.map_nil, List.map_nil, goL_nil]
  | n :: ns, h => AtL.mk (h n List.mem_cons_self) (AtL_map fun m hm => h m (List.mem_cons_of_mem _ hm))
theorem ord_there {U : Tr} {ord : List Nat} (ix : TrIdx U) (nd : U.Nodup) (h : OrdOk U ord) : ∀ (b a : Nat), a < b → a ∈ ord → AtT (rowsO U ord) (trA U a) (ord.idxOf a)
  | 0, a, hb, _ => absurd hb (Nat.not_lt_zero _)
  | b + 1, a, hb, ha => by
    have la := h.lt a ha
    have ea := List.getElem?_eq_getElem la
    have ra := rowAt_eq ea
    rw [trA_at ix ea]
    refine AtT.mk (ks := (U[a]).2.map fun n => ord.idxOf n.toNat) (AtL_map (f := fun n => trA U n.toNat) (g := fun n => ord.idxOf n.toNat) fun n hn => ?_) ?_
    · have := (ix a _ ea).2 n hn
      exact ord_there ix nd h b n.toNat (by omega) (h.cl a ha n (by rw [ra]; exact hn))
    · have e : mkI (U[a]).1 ((U[a]).2.map fun n => ord.idxOf n.toNat) = rowO U ord a := by
        unfold rowO
        rw [ra]
      rw [e]
      have li := List.idxOf_lt_length_iff.2 ha
      unfold markIx
      rw [List.findIdx?_eq_some_iff_getElem]
      refine ⟨by unfold rowsO; rw [List.length_map]; exact li, ?_, fun j hj => ?_⟩
      · unfold rowsO
        rw [List.getElem_map, List.getElem_idxOf li]
        exact decide_eq_true rfl
      · have lj : j < ord.length := by omega
        unfold rowsO
        rw [List.getElem_map]
        intro z
        have z2 := of_decide_eq_true z
        have mj := List.getElem_mem lj
        have e2 := mk_inj ix nd (h.lt _ mj) la (h.cl _ mj) (h.cl _ ha) z2
        have l3 := List.idxOf_lt_length_iff.2 mj
        have e3 := List.getElem_idxOf l3
        have := (List.getElem_inj h.nd (h₀ := l3) (h₁ := lj)).1 e3
        rw [e2] at this
        omega
theorem ord_new {U : Tr} {ord : List Nat} (ix : TrIdx U) (nd : U.Nodup) (h : OrdOk U ord) {a : Nat} (la : a < U.length) (na : a ∉ ord) (hp : ∀ n ∈ (rowAt U a).2, n.toNat ∈ ord) : (goT (trA U a) (rowsO U ord)).1 = rowsO U (ord ++ [a]) := by
  have ea := List.getElem?_eq_getElem la
  have ra := rowAt_eq ea
  have aL := AtL_map (R := rowsO U ord) (f := fun n => trA U n.toNat) (g := fun n => ord.idxOf n.toNat) (ns := (U[a]).2) fun n hn => ord_there ix nd h (n.toNat + 1) n.toNat (Nat.lt_succ_self _) (hp n (by rw [ra]; exact hn))
  unfold AtL at aL
  have e : mkI (U[a]).1 ((U[a]).2.map fun n => ord.idxOf n.toNat) = rowO U ord a := by
    unfold rowO
    rw [ra]
  rw [trA_at ix ea, goT_node, aL, e]
  have none : markIx (rowsO U ord) (rowO U ord a) = none := by
    cases c : markIx (rowsO U ord) (rowO U ord a) with
    | none => rfl
    | some k =>
      have hk := markIx_some c
      unfold rowsO at hk
      rw [List.getElem?_map] at hk
      cases eo : ord[k]? with
      | none => rw [eo] at hk; cases hk
      | some b =>
        rw [eo] at hk
        have mb := List.mem_of_getElem? eo
        have := mk_inj ix nd (h.lt b mb) la (h.cl b mb) hp (Option.some.inj hk)
        exact absurd (this ▸ mb) na
  rw [none, rowsO_snoc h hp]
theorem goL_open {pre post : List PT} {q : PT} : ∀ {R : Tr} {ks : List Nat}, AtL R pre ks → goL (pre ++ q :: post) R = goL (pre ++ q :: post) (goT q R).1 := by
  induction pre with
  | nil =>
    intro R ks _
    have g := go_at q R
    unfold AtT at g
    rw [List.nil_append, goL_cons, goL_cons, g]
  | cons p pre ih =>
    intro R ks h
    obtain ⟨k, ks', _, h1, h2⟩ := h.inv
    obtain ⟨e, he⟩ := goT_ext q R
    have h1' : AtT (goT q R).1 p k := by rw [he]; exact AtT.app p e h1
    unfold AtT at h1 h1'
    rw [List.cons_append, goL_cons, goL_cons, h1, h1']
    show ((goL (pre ++ q :: post) R).1, k :: (goL (pre ++ q :: post) R).2) = ((goL (pre ++ q :: post) (goT q R).1).1, k :: _)
    rw [ih h2]
theorem ord_open {U : Tr} {ord : List Nat} (ix : TrIdx U) (nd : U.Nodup) (h : OrdOk U ord) {a : Nat} (la : a < U.length) {pre post : List Int} {p : Int} (e : (rowAt U a).2 = pre ++ p :: post) (hp : ∀ n ∈ pre, n.toNat ∈ ord) : (goT (trA U a) (rowsO U ord)).1 = (goT (trA U a) (goT (trA U p.toNat) (rowsO U ord)).1).1 := by
  have ea := List.getElem?_eq_getElem la
  have ra := rowAt_eq ea
  rw [trA_at ix ea]
  rw [ra] at e
  have aL := AtL_map (R := rowsO U ord) (f := fun n => trA U n.toNat) (g := fun n => ord.idxOf n.toNat) (ns := pre) fun n hn => ord_there ix nd h (n.toNat + 1) n.toNat (Nat.lt_succ_self _) (hp n hn)
  have z := goL_open (q := trA U p.toNat) (post := post.map fun n => trA U n.toNat) aL
  rw [goT_node, goT_node, e, List.map_append, List.map_cons, z]
def finO (U : Tr) (S : List Nat) (R : Tr) : Tr := S.foldl (fun R a => (goT (trA U a) R).1) R
end Bk
set_option Elab.async false
/-! Bk66: heights, sizes, parts of trees, trees made of parts, copied: contracts. -/
namespace Bk
open PySem PySem.Spec PyProof.Rows L2
end Bk
set_option Elab.async false
/-! Bk67: trees laid behind one another, trees copied. -/
namespace Bk
open PySem PySem.Spec PyProof.Rows L2
/-! ### places of copies -/
structure PlI (H : Hp) (ps : List Addr) (pl : List (List Nat)) : Prop where
  len : ps.length = pl.length
  nd : ps.Nodup
  at_ : ∀ (q : Nat) (a : Addr) (l : List Nat), ps[q]? = some a → pl[q]? = some l → H a = some (.lst (natV l))
theorem PlI.keep {H H' : Hp} {ps : List Addr} {pl : List (List Nat)} (h : PlI H ps pl) (k : ∀ a ∈ ps, ∀ us, H a = some (.lst us) → H' a = some (.lst us)) : PlI H' ps pl := ⟨h.len, h.nd, fun q a l ha hl => k a (List.mem_of_getElem? ha) _ (h.at_ q a l ha hl)⟩
theorem PlI.snoc {H : Hp} {ps : List Addr} {pl : List (List Nat)} {a : Addr} {l : List Nat} (h : PlI H ps pl) (na : a ∉ ps) (ha : H a = some (.lst (natV l))) : PlI H (ps ++ [a]) (pl ++ [l]) := by
  refine ⟨by rw [List.length_append, List.length_append, h.len]; rfl, List.nodup_append.2 ⟨h.nd, List.nodup_cons.2 ⟨fun z => (nomatch z), List.nodup_nil⟩, fun x hx y hy => ?_⟩, fun q b m hb hm => ?_⟩
  · rw [List.mem_singleton.1 hy]
    exact fun z => na (z ▸ hx)
  · have hl := h.len
    rcases snoc_at hb with ⟨lb, hb'⟩ | ⟨rfl, rfl⟩
    · rw [List.getElem?_append_left (by omega)] at hm
      exact h.at_ q b m hb' hm
    · rw [List.getElem?_append_right (by omega), show ps.length - pl.length = 0 by omega] at hm
      cases hm
      exact ha
theorem PlI.put {H : Hp} {ps : List Addr} {pl : List (List Nat)} {a : Addr} {l : List Nat} {n : Nat} (h : PlI H (ps ++ [a]) (pl ++ [l])) : PlI (upd H a (.lst (natV l ++ [.int (n : Nat)]))) (ps ++ [a]) (pl ++ [l ++ [n]]) := by
  have hl := h.len
  rw [List.length_append, List.length_append] at hl
  replace hl : ps.length = pl.length := Nat.succ.inj hl
  refine ⟨by rw [List.length_append, List.length_append, hl]; rfl, h.nd, fun q b m hb hm => ?_⟩
  rcases snoc_at hb with ⟨lb, hb'⟩ | ⟨rfl, rfl⟩
  · have ne : b ≠ a := fun z => by
      have := (List.nodup_append.1 h.nd).2.2 b (List.mem_of_getElem? hb') a (List.mem_singleton.2 rfl)
      exact this z
    rw [List.getElem?_append_left (by omega)] at hm
    rw [upd_ne ne]
    exact h.at_ q b m hb (by rw [List.getElem?_append_left (by omega)]; exact hm)
  · rw [List.getElem?_append_right (by omega), show ps.length - pl.length = 0 by omega] at hm
    cases hm
    rw [upd_same, natV_snoc]
end Bk
set_option Elab.async false
/-! Bk68: rows looked for in lists of rows; the order of the law's plain tree. -/
namespace Bk
open PySem PySem.Spec PyProof.Rows L2
/-! ### lengths -/
theorem ones_sum (l : List Nat) : (l.map fun _ => 1).sum = l.length := by
  induction l with
  | nil => rfl
  | cons a l ih => rw [List.map_cons, List.sum_cons, ih, List.length_cons]; omega
theorem OrdOk.le {U : Tr} {ord : List Nat} (h : OrdOk U ord) : ord.length ≤ U.length := by
  have := sub_sum (fun _ => 1) ord (List.range U.length) h.nd fun b hb => List.mem_range.2 (h.lt b hb)
  rw [ones_sum, ones_sum, List.length_range] at this
  exact this
theorem up_len {n : Nat} : ∀ (S : List Nat) (lo : Nat), S.Pairwise (· < ·) → (∀ x ∈ S, lo ≤ x ∧ x < n) → S = [] ∨ S.length + lo ≤ n
  | [], _, _, _ => .inl rfl
  | a :: S, lo, hp, h => by
    obtain ⟨h1, h2⟩ := List.pairwise_cons.1 hp
    obtain ⟨a1, a2⟩ := h a List.mem_cons_self
    refine .inr ?_
    rcases up_len S (a + 1) h2 (fun x hx => ⟨h1 x hx, (h x (List.mem_cons_of_mem _ hx)).2⟩) with rfl | z
    · show 0 + 1 + lo ≤ n
      omega
    · rw [List.length_cons]
      omega
/-- the state of the law's plain walk -/
structure OSt (U : Tr) (k : Nat) (ord S : List Nat) : Prop where
  ok : OrdOk U ord
  up : S.Pairwise (· < ·)
  st : ∀ a ∈ S, a < U.length ∧ a ∉ ord
  fin : finO U S (rowsO U ord) = plT (trA U k)
theorem OSt.len {U : Tr} {k : Nat} {ord S : List Nat} (h : OSt U k ord S) : S.length ≤ U.length := by
  rcases up_len (n := U.length) S 0 h.up fun x hx => ⟨Nat.zero_le _, (h.st x hx).1⟩ with rfl | z
  · exact Nat.zero_le _
  · omega
theorem OSt.push {U : Tr} {k a : Nat} {ord S : List Nat} (ix : TrIdx U) (nd : U.Nodup) (h : OSt U k ord (a :: S)) {pre post : List Int} {p : Int} (e : (rowAt U a).2 = pre ++ p :: post) (hp : ∀ n ∈ pre, n.toNat ∈ ord) (np : p.toNat ∉ ord) : OSt U k ord (p.toNat :: a :: S) := by
  obtain ⟨la, _⟩ := h.st a List.mem_cons_self
  have ea := List.getElem?_eq_getElem la
  have lp : p.toNat < a := by
    have := (ix a _ ea).2 p (by rw [← rowAt_eq ea, e]; exact List.mem_append_right _ List.mem_cons_self)
    omega
  refine ⟨h.ok, List.pairwise_cons.2 ⟨fun x hx => ?_, h.up⟩, fun x hx => ?_, ?_⟩
  · rcases List.mem_cons.1 hx with rfl | hx
    · exact lp
    · have := (List.pairwise_cons.1 h.up).1 x hx
      omega
  · rcases List.mem_cons.1 hx with rfl | hx
    · exact ⟨by omega, np⟩
    · exact h.st x hx
  · have f := h.fin
    rw [← f]
    unfold finO
    rw [List.foldl_cons, List.foldl_cons, List.foldl_cons, ← ord_open ix nd h.ok la e hp]
theorem OSt.pop {U : Tr} {k a : Nat} {ord S : List Nat} (ix : TrIdx U) (nd : U.Nodup) (h : OSt U k ord (a :: S)) (hp : ∀ n ∈ (rowAt U a).2, n.toNat ∈ ord) : OSt U k (ord ++ [a]) S ∧ ord.length < U.length := by
  obtain ⟨la, na⟩ := h.st a List.mem_cons_self
  have ok := h.ok.snoc la na hp
  have le := ok.le
  rw [List.length_append, List.length_singleton] at le
  refine ⟨⟨ok, (List.pairwise_cons.1 h.up).2, fun x hx => ⟨(h.st x (List.mem_cons_of_mem _ hx)).1, fun z => ?_⟩, ?_⟩, by omega⟩
  · rcases List.mem_append.1 z with z | z
    · exact (h.st x (List.mem_cons_of_mem _ hx)).2 z
    · have := (List.pairwise_cons.1 h.up).1 x hx
      have := List.mem_singleton.1 z
      omega
  · rw [← h.fin]
    unfold finO
    rw [List.foldl_cons, ord_new ix nd h.ok la na hp]
end Bk
set_option Elab.async false
/-! Bk69: trees with one top; the law of k09. -/
namespace Bk
open PySem PySem.Spec PyProof.Rows L2
structure TrT (T : PT) (c : Tr) : Prop where
  pos : 0 < c.length
  few : c.length ≤ 400
  idx : TrIdx c
  top : trA c (c.length - 1) = T
  name : ∀ r ∈ c, TextOk r.1
theorem plain_top {t : Tr} (ok : TrIdx t) (h : 0 < t.length) : trA (plainF t) ((plainF t).length - 1) = trA t (t.length - 1) := by
  have pe := plain_end ok h
  have := pe.last PT (default : PT) PT.node
  unfold trA trP
  rw [List.getD_eq_getElem?_getD, List.getD_eq_getElem?_getD, this]
theorem TrT.plain {T : PT} {c : Tr} (h : TrT T c) : TrT T (plainF c) ∧ plainF c = plT T := by
  have pe := plain_end h.idx h.pos
  have l := pe.le
  have f := h.few
  refine ⟨⟨pe.pos, by omega, pe.idx, (plain_top h.idx h.pos).trans h.top, plain_names h.idx h.pos h.name⟩, ?_⟩
  rw [plainF_eq, h.top]
theorem TrT.row {nm : Str} {ps : List PT} {c : Tr} (h : TrT (.node nm ps) c) : (rowAt c (c.length - 1)).1 = nm ∧ (rowAt c (c.length - 1)).2.map (fun n => trA c n.toNat) = ps ∧ ps.length ≤ 2 := by
  have p := h.pos
  have er := List.getElem?_eq_getElem (l := c) (i := c.length - 1) (by omega)
  have e := h.top
  rw [trA_at h.idx er] at e
  injection e with e1 e2
  have r := rowAt_eq er
  rw [r]
  exact ⟨e1, e2, by rw [← e2, List.length_map]; exact (h.idx _ _ er).1⟩
theorem TrT.part {nm : Str} {ps : List PT} {c : Tr} (h : TrT (.node nm ps) c) : ∀ p ∈ ps, TrT p (plT p) ∧ (plT p).length ≤ c.length := fun p hp => by
  obtain ⟨_, e2, _⟩ := h.row
  rw [← e2] at hp
  obtain ⟨n, hn, rfl⟩ := List.mem_map.1 hp
  have q := h.pos
  have er := List.getElem?_eq_getElem (l := c) (i := c.length - 1) (by omega)
  rw [rowAt_eq er] at hn
  have ix := (h.idx _ _ er).2 n hn
  have l : (c.take (n.toNat + 1)).length = n.toNat + 1 := by rw [List.length_take]; omega
  have f := h.few
  have t : TrT (trA c n.toNat) (c.take (n.toNat + 1)) := ⟨by omega, by omega, h.idx.take _, by rw [l, Nat.add_sub_cancel]; exact trA_take (by omega) (Nat.lt_succ_self _), fun r hr => h.name r (List.mem_of_mem_take hr)⟩
  have z := t.plain
  have pl := (plain_end t.idx t.pos).le
  rw [z.2] at pl
  rw [z.2] at z
  exact ⟨z.1, by omega⟩
theorem TrT.parts {nm : Str} {ps : List PT} {c : Tr} (h : TrT (.node nm ps) c) : (∀ t ∈ ps.map plT, 0 < t.length ∧ t.length ≤ 1000 ∧ TrIdx t) ∧ ((ps.map plT).map fun t => trA t (t.length - 1)) = ps := by
  have k := h.part
  refine ⟨fun t ht => ?_, ?_⟩
  · obtain ⟨p, hp, rfl⟩ := List.mem_map.1 ht
    have z := (k p hp).1
    exact ⟨z.pos, Nat.le_trans z.few (by decide), z.idx⟩
  · rw [List.map_map]
    have : (ps.map ((fun t => trA t (t.length - 1)) ∘ plT)) = ps.map id := List.map_congr_left fun p hp => (k p hp).1.top
    rw [this, List.map_id]
theorem TrT.size {T : PT} {c : Tr} (h : TrT T c) : (treeD c).size ≤ 2001 := by
  have := tree_size h.idx
  have := h.few
  omega
end Bk
set_option Elab.async false
/-! Bk70: patterns put into patterns. -/
namespace Bk
open PySem PySem.Spec PyProof.Rows L2
/-! ### values of patterns -/
/-! ### a pattern laid into rows -/
/-! ### a pattern with patterns put in -/
end Bk
set_option Elab.async false
set_option linter.all false
set_option maxRecDepth 100000
set_option maxHeartbeats 4000000
/-! Bk71: numbers and fractions as texts -/
namespace Bk
open PySem PySem.Spec PyProof.Rows L2
/-! ### numbers as texts -/
def numT (i : Int) : Str := ((toString i : String) : Str)
def numTL (i : Int) : List Nat := if i < 0 then 45 :: TL.numL i.natAbs else TL.numL i.natAbs
theorem numT_tl (i : Int) : (numT i).cps.toList = numTL i := by
  unfold numT numTL
  by_cases h : i < 0
  · rw [if_pos h]
    have e : (0 : Int) - i = ((i.natAbs : Nat) : Int) := by omega
    show TL.tl (Str.ofString (toString i)) = _
    rw [TL.tl_ofString, PyProof.Rows.toString_neg h, String.toList_append, List.map_append, ← TL.tl_ofString (toString (0 - i)), e, TL.tl_num]
    rfl
  · rw [if_neg h]
    have e : i = ((i.natAbs : Nat) : Int) := by omega
    show TL.tl (Str.ofString (toString i)) = _
    rw [e, TL.tl_num]
    rfl
theorem numTL_nat (n : Nat) : numTL (n : Int) = TL.numL n := by
  unfold numTL
  rw [if_neg (by omega)]
  rfl
theorem numTL_len {i : Int} {k : Nat} (hk : 0 < k) (h : i.natAbs < 10 ^ k) : (numTL i).length ≤ k + 1 := by
  have := TL.numL_len hk h
  unfold numTL
  split
  · rw [List.length_cons]; omega
  · omega
theorem numT_len {i : Int} {k : Nat} (hk : 0 < k) (h : i.natAbs < 10 ^ k) : (numT i).length ≤ k + 1 := by
  rw [str_len, numT_tl]
  exact numTL_len hk h
theorem numTL_sign {i : Int} : ∀ c ∈ numTL i, c = 45 ∨ (48 ≤ c ∧ c ≤ 57) := fun c hc => by
  unfold numTL at hc
  split at hc
  · rcases List.mem_cons.1 hc with h | h
    · exact .inl h
    · exact .inr (TL.numL_digits _ c h)
  · exact .inr (TL.numL_digits _ c hc)
theorem numL_head {n : Nat} (h : 0 < n) : (TL.numL n).headD 0 ≠ 48 := by
  induction n using Nat.strongRecOn with
  | _ n ih =>
    by_cases c : n < 10
    · rw [TL.numL_lt c]
      show 48 + n ≠ 48
      omega
    · rw [TL.numL_step (by omega)]
      have z := ih (n / 10) (by omega) (by omega)
      have ne := TL.numL_ne (n / 10)
      cases e : TL.numL (n / 10) with
      | nil => exact absurd e ne
      | cons a r =>
        rw [e] at z
        exact z
theorem numL_zero : TL.numL 0 = [48] := TL.numL_lt (by decide)
/-! ### figures -/
def figS : Str := "0123456789"
theorem fig_list : figS.cps.toList = [48, 49, 50, 51, 52, 53, 54, 55, 56, 57] := by decide +kernel
theorem fig_mem {c : Nat} : c ∈ figS.cps.toList ↔ 48 ≤ c ∧ c ≤ 57 := by
  rw [fig_list]
  simp only [List.mem_cons, List.not_mem_nil, or_false]
  omega
def isFigs (s : Str) : Bool := decide (0 < s.length ∧ s.length ≤ 30) && (s.cps.toList.all (fun c => decide (c ∈ figS.cps.toList)) && (decide (s = "0") || !decide (s.cps.toList.headD 0 = 48)))
theorem isFigs_iff {s : Str} : isFigs s = true ↔ (0 < s.length ∧ s.length ≤ 30) ∧ NumText.AllDigits s.cps.toList ∧ (s = "0" ∨ s.cps.toList.headD 0 ≠ 48) := by
  unfold isFigs
  rw [Bool.and_eq_true, Bool.and_eq_true, Bool.or_eq_true, decide_eq_true_eq, decide_eq_true_eq, Bool.not_eq_true', decide_eq_false_iff_not, List.all_eq_true]
  constructor
  · rintro ⟨a, b, c⟩
    exact ⟨a, fun x hx => fig_mem.1 (of_decide_eq_true (b x hx)), c⟩
  · rintro ⟨a, b, c⟩
    exact ⟨a, fun x hx => decide_eq_true (fig_mem.2 (b x hx)), c⟩
theorem zero_list : ("0" : Str).cps.toList = [48] := by decide +kernel
theorem numT_zero : numT 0 = "0" := str_ext (by rw [numT_tl, zero_list]; exact (numTL_nat 0).trans numL_zero)
theorem isFigs_num {n : Nat} (h : n < 10 ^ 30) : isFigs (numT (n : Int)) = true := by
  rw [isFigs_iff, str_len, numT_tl, numTL_nat]
  have l := TL.numL_len (by decide) h
  have z := TL.numL_ne n
  refine ⟨⟨List.length_pos_iff.2 z, l⟩, TL.numL_digits n, ?_⟩
  rcases Nat.eq_zero_or_pos n with e | e
  · subst e
    exact .inl numT_zero
  · exact .inr (numL_head e)
theorem fold_bound : ∀ (l : List Nat) (a : Nat), NumText.AllDigits l → a * 10 ^ l.length ≤ l.foldl (fun acc c => acc * 10 + (c - 48)) a ∧ l.foldl (fun acc c => acc * 10 + (c - 48)) a < (a + 1) * 10 ^ l.length
  | [], a, _ => by simp
  | c :: l, a, h => by
    have hc := h.head
    obtain ⟨z1, z2⟩ := fold_bound l (a * 10 + (c - 48)) h.tail
    rw [List.foldl_cons, List.length_cons, Nat.pow_succ]
    have p : 0 < 10 ^ l.length := Nat.pow_pos (by decide)
    constructor
    · refine Nat.le_trans ?_ z1
      rw [Nat.mul_comm (10 ^ l.length), ← Nat.mul_assoc]
      exact Nat.mul_le_mul_right _ (by omega)
    · refine Nat.lt_of_lt_of_le z2 ?_
      rw [Nat.mul_comm (10 ^ l.length), ← Nat.mul_assoc]
      exact Nat.mul_le_mul_right _ (by omega)
theorem digits_lt {l : List Nat} (h : NumText.AllDigits l) : NumText.digitsVal l < 10 ^ l.length := by
  have z := (fold_bound l 0 h).2
  rw [Nat.zero_add, Nat.one_mul] at z
  exact z
theorem digits_pos {l : List Nat} (h : NumText.AllDigits l) (hn : l ≠ []) (h0 : l.headD 0 ≠ 48) : 0 < NumText.digitsVal l := by
  cases l with
  | nil => exact absurd rfl hn
  | cons c l =>
    have hc := h.head
    have h0' : c ≠ 48 := h0
    have z := (fold_bound l (0 * 10 + (c - 48)) h.tail).1
    have p : 0 < 10 ^ l.length := Nat.pow_pos (by decide)
    refine Nat.lt_of_lt_of_le ?_ z
    exact Nat.mul_pos (by omega) p
/-- the number that a text writes -/
def intT (s : Str) : Int := (intText? s).getD 0
theorem int_digits {s : Str} (h : NumText.AllDigits s.cps.toList) (h1 : s.cps.toList ≠ []) (h2 : s.length ≤ 600) : intText? s = some (intT s) ∧ intT s = ((NumText.digitsVal s.cps.toList : Nat) : Int) := by
  have e := intText_digits h h1 (by omega)
  unfold intT
  rw [e]
  exact ⟨rfl, rfl⟩
theorem int_negs {s : Str} {cs : List Nat} (hx : s.cps.toList = 45 :: cs) (h : NumText.AllDigits cs) (h1 : cs ≠ []) (h2 : s.length ≤ 600) : intText? s = some (intT s) ∧ intT s = -((NumText.digitsVal cs : Nat) : Int) := by
  have e := intText_neg hx h h1 (by omega)
  unfold intT
  rw [e]
  exact ⟨rfl, rfl⟩
theorem intT_num {i : Int} {k : Nat} (h : i.natAbs < 10 ^ k) (hk : 0 < k) (hk2 : k ≤ 599) : intT (numT i) = i := by
  have l := Nat.le_trans (numT_len (i := i) hk h) (by omega : k + 1 ≤ 600)
  by_cases c : i < 0
  · have e : (numT i).cps.toList = 45 :: TL.numL i.natAbs := by rw [numT_tl]; exact if_pos c
    rw [(int_negs e (TL.numL_digits _) (TL.numL_ne _) l).2, TL.numL_val]
    omega
  · have e : (numT i).cps.toList = TL.numL i.natAbs := by rw [numT_tl]; exact if_neg c
    rw [(int_digits (by rw [e]; exact TL.numL_digits _) (by rw [e]; exact TL.numL_ne _) l).2, e, TL.numL_val]
    omega
/-! ### fractions as texts -/
def showFx (f : Fx) : Str := if f.2 = 1 then numT f.1 else numT f.1 ++ "/" ++ numT f.2
def hasSign (s : Str) : Bool := Txt.startswith s "-"
theorem starts_iff {x y : Str} (hy : y.cps.toList ≠ []) : Txt.startswith x y = (x.cps.toList.take y.cps.toList.length == y.cps.toList) := by
  rw [Bool.eq_iff_iff]
  have z := TL.at_iff (x := x) (y := y) hy 0
  rw [List.drop_zero] at z
  unfold TL.pre at z
  rw [← z]
  unfold Txt.startswith
  rw [Bool.and_eq_true, decide_eq_true_eq]
  rfl
theorem hasSign_cons {s : Str} {c : Nat} {r : List Nat} (h : s.cps.toList = c :: r) : hasSign s = decide (c = 45) := by
  unfold hasSign
  have e : ("-" : Str).cps.toList = [45] := by decide +kernel
  rw [starts_iff (by rw [e]; exact List.cons_ne_nil _ _), h, e]
  show ([c] == [45]) = _
  by_cases x : c = 45
  · subst x; rfl
  · rw [decide_eq_false x]
    simpa using x
theorem hasSign_nil {s : Str} (h : s.cps.toList = []) : hasSign s = false := by
  unfold hasSign
  have e : ("-" : Str).cps.toList = [45] := by decide +kernel
  rw [starts_iff (by rw [e]; exact List.cons_ne_nil _ _), h, e]
  rfl
/-- a fraction's text less its sign -/
def bareS (s : Str) : Str := cutS s (some (b2z (hasSign s))) none
theorem bareS_list (s : Str) : (bareS s).cps.toList = if s.cps.toList.headD 0 = 45 then s.cps.toList.drop 1 else s.cps.toList := by
  unfold bareS
  cases e : s.cps.toList with
  | nil =>
    rw [hasSign_nil e]
    have z := cut_from (z := s) (a := 0) (Nat.zero_le _)
    show (cutS s (some ((0 : Nat) : Int)) none).cps.toList = _
    rw [z, e]
    rfl
  | cons c r =>
    rw [hasSign_cons e]
    by_cases h : c = 45
    · rw [decide_eq_true h, if_pos (show (c :: r).headD 0 = 45 from h)]
      have z := cut_from (z := s) (a := 1) (by rw [str_len, e, List.length_cons]; omega)
      show (cutS s (some ((1 : Nat) : Int)) none).cps.toList = _
      rw [z, e]
    · rw [decide_eq_false h, if_neg (show (c :: r).headD 0 ≠ 45 from h)]
      have z := cut_from (z := s) (a := 0) (Nat.zero_le _)
      show (cutS s (some ((0 : Nat) : Int)) none).cps.toList = _
      rw [z, e]
      rfl
def lowS (p : Str × Str × Str) : Str := if p.2.1 = "" then "1" else p.2.2
def readFx (s : Str) : Option Fx :=
  if isFigs (bareS (Txt.partition s "/").1) = true ∧ isFigs (lowS (Txt.partition s "/")) = true ∧ lowS (Txt.partition s "/") ≠ "0" then
    (if showFx (lowF (intT (Txt.partition s "/").1) (intT (lowS (Txt.partition s "/")))) = s then some (lowF (intT (Txt.partition s "/").1) (intT (lowS (Txt.partition s "/")))) else none)
  else none
/-- figures with a sign or none: their number -/
theorem figs_int {s : Str} (h : isFigs (bareS s) = true) : intText? s = some (intT s) ∧ (intT s).natAbs < 10 ^ 30 ∧ s.length ≤ 31 := by
  obtain ⟨⟨l0, l1⟩, ad, _⟩ := isFigs_iff.1 h
  rw [str_len] at l0 l1
  rw [bareS_list] at l0 l1 ad
  by_cases c : s.cps.toList.headD 0 = 45
  · rw [if_pos c] at l0 l1 ad
    cases e : s.cps.toList with
    | nil => rw [e] at c; cases c
    | cons x r =>
      rw [e] at c l0 l1 ad
      obtain rfl : x = 45 := c
      replace ad : NumText.AllDigits r := ad
      replace l0 : 0 < r.length := l0
      replace l1 : r.length ≤ 30 := l1
      have ls : s.length = r.length + 1 := by rw [str_len, e]; rfl
      obtain ⟨a, b⟩ := int_negs e ad (List.length_pos_iff.1 l0) (by omega)
      refine ⟨a, ?_, by omega⟩
      rw [b, Int.natAbs_neg, Int.natAbs_natCast]
      exact Nat.lt_of_lt_of_le (digits_lt ad) (Nat.pow_le_pow_right (by decide) l1)
  · rw [if_neg c] at l0 l1 ad
    obtain ⟨a, b⟩ := int_digits ad (List.length_pos_iff.1 l0) (by rw [str_len]; omega)
    refine ⟨a, ?_, by rw [str_len]; omega⟩
    rw [b, Int.natAbs_natCast]
    exact Nat.lt_of_lt_of_le (digits_lt ad) (Nat.pow_le_pow_right (by decide) l1)
theorem figs_low {s : Str} (h : isFigs s = true) (h0 : s ≠ "0") : intText? s = some (intT s) ∧ 0 < intT s ∧ (intT s).natAbs < 10 ^ 30 ∧ s.length ≤ 30 := by
  obtain ⟨⟨l0, l1⟩, ad, hd⟩ := isFigs_iff.1 h
  have l0' := l0
  have l1' := l1
  rw [str_len] at l0' l1'
  have ne := List.length_pos_iff.1 l0'
  obtain ⟨a, b⟩ := int_digits ad ne (by omega)
  have p := digits_pos ad ne (hd.resolve_left h0)
  have q := digits_lt ad
  refine ⟨a, by rw [b]; omega, ?_, l1⟩
  rw [b, Int.natAbs_natCast]
  exact Nat.lt_of_lt_of_le q (Nat.pow_le_pow_right (by decide) l1')
theorem ten30 : (10 : Nat) ^ 30 < 2 ^ 100 := by decide
theorem slash_list : ("/" : Str).cps.toList = [47] := by decide +kernel
theorem numTL_free {i : Int} {c : Nat} (h : c ≠ 45) (h2 : c < 48 ∨ 57 < c) : c ∉ numTL i := fun z => by
  rcases numTL_sign c z with e | e
  · exact h e
  · omega
theorem bare_num (i : Int) : bareS (numT i) = numT ((i.natAbs : Nat) : Int) := by
  refine str_ext ?_
  rw [bareS_list, numT_tl, numT_tl, numTL_nat]
  unfold numTL
  by_cases h : i < 0
  · rw [if_pos h]
    exact if_pos rfl
  · rw [if_neg h]
    refine if_neg ?_
    have ne := TL.numL_ne i.natAbs
    cases e : TL.numL i.natAbs with
    | nil => exact absurd e ne
    | cons c r =>
      have := TL.numL_digits i.natAbs c (by rw [e]; exact List.mem_cons_self)
      show c ≠ 45
      omega
theorem num_ne_zero {n : Nat} (h : 0 < n) : numT (n : Int) ≠ "0" := fun e => by
  have z := congrArg (fun s : Str => s.cps.toList.headD 0) e
  rw [numT_tl, numTL_nat] at z
  refine numL_head h (z.trans ?_)
  rw [zero_list]
  rfl
theorem low_self {f : Fx} (h : LowF f) : lowF f.1 f.2 = f := by
  obtain ⟨a, b⟩ := (gcd_lowest h.1).2 h.2
  unfold lowF
  rw [a, b]
/-- THE READ-BACK of fractions -/
theorem readFx_show {f : Fx} (h : LowF f) (h1 : f.1.natAbs < 10 ^ 30) (h2 : f.2.natAbs < 10 ^ 30) : readFx (showFx f) = some f := by
  have b1 : isFigs (bareS (numT f.1)) = true := by rw [bare_num]; exact isFigs_num h1
  have i1 := intT_num (i := f.1) h1 (by decide) (by decide)
  by_cases c : f.2 = 1
  · have es : showFx f = numT f.1 := if_pos c
    have ep : Txt.partition (numT f.1) "/" = (numT f.1, Str.empty, Str.empty) := TL.partition_none slash_list (by
      show 47 ∉ (numT f.1).cps.toList
      rw [numT_tl]
      exact numTL_free (by decide) (.inl (by decide)))
    have e1 : lowS (numT f.1, Str.empty, Str.empty) = "1" := if_pos rfl
    have it : intT "1" = 1 := by
      have := intT_num (i := 1) (k := 1) (by decide) (by decide) (by decide)
      have e : numT 1 = "1" := by decide +kernel
      rw [e] at this
      exact this
    have ef : lowF f.1 1 = f := by
      have := low_self h
      rw [c] at this
      exact this
    unfold readFx
    rw [es, ep, e1]
    show (if isFigs (bareS (numT f.1)) = true ∧ _ then (if showFx (lowF (intT (numT f.1)) (intT "1")) = numT f.1 then some (lowF (intT (numT f.1)) (intT "1")) else none) else none) = some f
    rw [i1, it, ef, if_pos ⟨b1, by decide +kernel, by decide +kernel⟩, if_pos es]
  · have es : showFx f = numT f.1 ++ "/" ++ numT f.2 := if_neg c
    have ep : Txt.partition (numT f.1 ++ "/" ++ numT f.2) "/" = (numT f.1, ("/" : Str), numT f.2) := TL.partition_app slash_list (by
      show 47 ∉ (numT f.1).cps.toList
      rw [numT_tl]
      exact numTL_free (by decide) (.inl (by decide)))
    have e1 : lowS (numT f.1, ("/" : Str), numT f.2) = numT f.2 := if_neg (by show ("/" : Str) ≠ ""; decide +kernel)
    have e2 : f.2 = ((f.2.natAbs : Nat) : Int) := by have := h.1; omega
    have i2 := intT_num (i := f.2) h2 (by decide) (by decide)
    have b2 : isFigs (numT f.2) = true := by rw [e2]; exact isFigs_num h2
    have n0 : numT f.2 ≠ "0" := by rw [e2]; exact num_ne_zero (by have := h.1; omega)
    unfold readFx
    rw [es, ep, e1]
    show (if isFigs (bareS (numT f.1)) = true ∧ _ then (if showFx (lowF (intT (numT f.1)) (intT (numT f.2))) = numT f.1 ++ "/" ++ numT f.2 then some (lowF (intT (numT f.1)) (intT (numT f.2))) else none) else none) = some f
    rw [i1, i2, low_self h, if_pos ⟨b1, b2, n0⟩, if_pos es]
end Bk
set_option Elab.async false
set_option linter.all false
set_option maxRecDepth 100000
set_option maxHeartbeats 4000000
/-! Bk72: int(t, 10), f-strings -/
namespace Bk
open PySem PySem.Spec PyProof.Rows L2
/-! ### int(t, 10) -/
section
open PySem.NumText PySem.Calls
structure Hid10 (p : Prop) : Prop where
  out : p
set_option maxHeartbeats 8000000 in
theorem gives_int10 {x : PySem.Str} {u t : Tok} {n : Int} (hl : x.length ≤ 640) (hn : PySem.intText? x = some n) :
    Gives (Builtin.«int.__new__» ⟨[.type "int", .str x u, .int 10 t], []⟩) (.int n) :=
  .of_wp fun M A E s Q hQ => by
    obtain ⟨hp, g, d, tk, os⟩ := s
    have f1 := F.conv_sub_int
    have f2 := F.madeHere_int
    have f6 : typeOf (.str x u) = pure (.type "str") := rfl
    have hs : (numSeenOf x).length ≤ 640 := Nat.le_trans (seen_length x) hl
    have hr : (int_private% "readNumeral") 0 10 (numSeenOf x) = (int_private% "Numeral.value") n ∧ ((numSeenOf x).length == (numTextOf x).length) = true := by
      rcases read0 x hs with ⟨m, h1, h2, h3⟩ | ⟨h1, _⟩
      · rw [hn] at h1
        injection h1 with h1
        subst h1
        exact ⟨h3, h2⟩
      · rw [hn] at h1
        cases h1
    have hk := Hid10.mk (And.intro hs hr)
    clear hs hr hl hn
    repeat (any_goals (first
      | assumption
      | ((with_reducible show wpAny _ _ ((int_private% "intFromText") _ _ _) _ _ _); refine PySem.W.KIN.wp_text hk.out.1 hk.out.2.1 hk.out.2.2 ?_)
      | wp_step))
    all_goals first | exact ⟨_, rfl, hQ⟩ | skip
theorem call_int10W {prog : Program} {w : World} {A : Around} {E : Value → Shared → Prop} {s : Shared} {Q : Value → Shared → Prop} {x : PySem.Str} {u t : Tok} {n : Int} (hl : x.length ≤ 640) (hn : PySem.intText? x = some n)
    (hQ : Q (.int n s.toks) { s with toks := s.toks + 1 }) : wpAny (model prog w) A (call (.type "int") [.str x u, .int 10 t]) Q E s :=
  callType_new F.called_int F.newNe_int (L2.Hx.typeCall_int_2 _ _) (L2.Hx.newCall_int_2 _ _) (fun obj => F.initArgs_range_2 obj _ _) F.entry_int_new (gives_int10 hl hn).meets (show (Made.int n).post _ s from ⟨rfl, hQ⟩)
end
def uInt10 : List V → Hp → VK → Prop := fun xs H Q => match xs with
  | [.str a, .int i] => i = 10 ∧ a.length ≤ 640 ∧ intText? a = some (intT a) ∧ Q (.int (intT a)) H
  | _ => False
theorem uk_int10 {X : Cx} : CallR X (.type "int") uInt10 := by
  intro pins s σ H xs us Q I r h
  unfold uInt10 at h
  split at h
  · obtain ⟨rfl, hl, hn, q⟩ := h
    obtain ⟨u, w', rfl, r1, r2⟩ := vals2 r
    obtain ⟨t1, rfl⟩ := r1
    obtain ⟨t2, rfl⟩ := r2
    exact call_int10W hl hn ⟨.int (intT _), H, I.tok _, ⟨_, rfl⟩, q⟩
  · exact h.elim
/-! ### f-strings, str, int of texts -/
section
variable {K : PySem.W.Frag} {H : Hp} {Q : VK} {σ : L2.St}
theorem g_int10 {a : Str} (hl : a.length ≤ 640) (hn : intText? a = some (intT a)) (h : Q (.int (intT a)) H) : uInt10 [.str a, .int 10] H Q := ⟨rfl, hl, hn, h⟩
/-- {x}: a text or an int -/
def uFmtV (x : V) (H : Hp) (Q : VK) : Prop := match x with
  | .str y => y.length ≤ 1000000 ∧ Q (.str y) H
  | .int i => i.natAbs.log2 < 1920 ∧ Q (.str (numT i)) H
  | _ => False
def uFmt (te : TE) : TE := fun σ H Q => te σ H fun x H1 => uFmtV x H1 Q
theorem pe_fmtU {X : Cx} {e : Expr} {te : TE} {pos : Pos} (he : PE X e te) : PE X (.FormattedValue e (-1) none pos) (uFmt te) := by
  refine ⟨fun pp s0 σ0 H0 Q0 J hh => wpAny_FormattedValue_plain (thn (he.run pp s0 σ0 H0 _ J hh) fun v0 s2 z => ?_)⟩
  obtain ⟨x0, H2, J2, rr, qq⟩ := z
  unfold uFmtV at qq
  split at qq
  · obtain ⟨tk, e⟩ := rr
    subst e
    exact wpAny_formatField_str ⟨.str _, H2, J2, ⟨tk, rfl⟩, qq.2⟩ ⟨.str _, H2, J2.tok _, ⟨_, rfl⟩, qq.2⟩ (Nat.le_trans qq.1 (by decide))
  · obtain ⟨tk, e⟩ := rr
    subst e
    exact wpAny_formatField_int qq.1 ⟨.str (numT _), H2, J2.tok _, ⟨_, rfl⟩, qq.2⟩
  · exact qq.elim
theorem g_fmt {te : TE} (h : te σ H fun x H1 => uFmtV x H1 Q) : uFmt te σ H Q := h
theorem g_fmtS {y : Str} (hl : y.length ≤ 1000000) (h : Q (.str y) H) : uFmtV (.str y) H Q := ⟨hl, h⟩
theorem g_fmtI {i : Int} (hl : i.natAbs.log2 < 1920) (h : Q (.str (numT i)) H) : uFmtV (.int i) H Q := ⟨hl, h⟩
/-- f'..' -/
def uJs (ts : List TE) : TE := fun σ H Q => tJs ts Str.empty σ H fun out H1 => Q (.str out) H1
theorem pe_joinU {X : Cx} {v1 v2 : Expr} {rest : List Expr} {ts : List TE} {pos : Pos} (h : PJ X (v1 :: v2 :: rest) ts) : PE X (.JoinedStr (v1 :: v2 :: rest) pos) (uJs ts) := pe_joined h
theorem g_uJs {ts : List TE} (h : tJs ts Str.empty σ H fun out H1 => Q (.str out) H1) : uJs ts σ H Q := h
theorem g_js {t : TE} {ts : List TE} {acc : Str} {R : Str → Hp → Prop} (h : t σ H fun x H1 => ∃ y : Str, x = .str y ∧ (acc ++ y).length ≤ sizeLine ∧ tJs ts (acc ++ y) σ H1 R) : tJs (t :: ts) acc σ H R := h
theorem g_jn {acc : Str} {R : Str → Hp → Prop} (h : R acc H) : tJs [] acc σ H R := h
theorem g_jv {acc y : Str} {ts : List TE} {R : Str → Hp → Prop} (hl : acc.length + y.length ≤ 1000000) (h : tJs ts (acc ++ y) σ H R) : ∃ z : Str, V.str y = .str z ∧ (acc ++ z).length ≤ sizeLine ∧ tJs ts (acc ++ z) σ H R :=
  ⟨y, rfl, Nat.le_trans (by rw [app_len]; exact hl) (by decide), h⟩
def uStr : List V → Hp → VK → Prop := fun xs H Q => match xs with
  | [.int i] => i.natAbs.log2 < 1920 ∧ Q (.str (numT i)) H
  | [.non] => Q (.str "None") H
  | [.str z] => Q (.str z) H
  | _ => False
theorem uk_str {X : Cx} : CallR X (.type "str") uStr := by
  intro pins s σ H xs us Q I r h
  unfold uStr at h
  split at h
  · exact call_str_int pins s σ H _ us Q I r ⟨_, rfl, h.1, h.2⟩
  · obtain ⟨u, rfl, r1⟩ := vals1 r
    cases r1
    exact P.str_of_none ⟨.str "None", H, I.tok _, ⟨_, rfl⟩, h⟩
  · obtain ⟨u, rfl, r1⟩ := vals1 r
    obtain ⟨t1, rfl⟩ := r1
    exact P.str_of_str ⟨.str _, H, I, ⟨t1, rfl⟩, h⟩
  · exact h.elim
theorem g_strN (h : Q (.str "None") H) : uStr [.non] H Q := h
theorem g_str {i : Int} (hl : i.natAbs.log2 < 1920) (h : Q (.str (numT i)) H) : uStr [.int i] H Q := ⟨hl, h⟩
def uIntS : List V → Hp → VK → Prop := fun xs H Q => match xs with
  | [.str a] => intText? a = some (intT a) ∧ a.length ≤ 640 ∧ Q (.int (intT a)) H
  | _ => False
theorem uk_intS {X : Cx} : CallR X (.type "int") uIntS := by
  intro pins s σ H xs us Q I r h
  unfold uIntS at h
  split at h
  · exact call_int_str pins s σ H _ us Q I r ⟨_, _, rfl, h.1, h.2.1, h.2.2⟩
  · exact h.elim
theorem g_intS {a : Str} (hn : intText? a = some (intT a)) (hl : a.length ≤ 640) (h : Q (.int (intT a)) H) : uIntS [.str a] H Q := ⟨hn, hl, h⟩
end
theorem numT_bits {n : Nat} {i : Int} (h : Bits n i) (hn : 0 < n := by decide) : (numT i).length ≤ n + 1 := numT_len hn (Nat.lt_of_lt_of_le h (Nat.pow_le_pow_left (by decide) n))
theorem empty_len : Str.empty.length = 0 := rfl
theorem empty_app (s : Str) : Str.empty ++ s = s := str_ext (by rw [app_list]; rfl)
theorem log_of {i : Int} {n : Nat} (h : Bits n i) (hn : 0 < n) (hm : n ≤ 1900) : i.natAbs.log2 < 1920 := by
  have := h.log hn
  omega
end Bk
set_option Elab.async false
set_option linter.all false
set_option maxRecDepth 100000
set_option maxHeartbeats 4000000
/-! Bk73: readers as texts -/
namespace Bk
open PySem PySem.Spec PyProof.Rows L2
/-! ### pieces of a text cut at a sign -/
theorem par_len {s : Nat} : ∀ (l acc a b : List Nat), TL.par [s] acc l = some (a, b) → a.length + b.length + 1 = acc.length + l.length ∧ (∀ c ∈ a, c ∈ acc ∨ c ∈ l) ∧ ∀ c ∈ b, c ∈ l
  | [], acc, a, b, h => by cases h
  | c :: l, acc, a, b, h => by
    by_cases hp : TL.pre [s] (c :: l) = true
    · rw [TL.par_hit hp] at h
      cases h
      refine ⟨by simp only [List.length_cons, List.length_drop, List.length_nil]; omega, fun x hx => .inl hx, fun x hx => List.mem_cons_of_mem _ hx⟩
    · rw [TL.par_miss (by simpa using hp)] at h
      obtain ⟨z1, z2, z3⟩ := par_len l (acc ++ [c]) a b h
      rw [List.length_append] at z1
      refine ⟨by simp only [List.length_cons, List.length_nil] at z1 ⊢; omega, fun x hx => ?_, fun x hx => List.mem_cons_of_mem _ (z3 x hx)⟩
      rcases z2 x hx with q | q
      · rcases List.mem_append.1 q with q | q
        · exact .inl q
        · rw [List.mem_singleton.1 q]
          exact .inr List.mem_cons_self
      · exact .inr (List.mem_cons_of_mem _ q)
theorem part_ok {z y : Str} {s : Nat} (ey : y.cps.toList = [s]) : (Txt.partition z y).1.length ≤ z.length ∧ (Txt.partition z y).2.2.length ≤ z.length ∧ (∀ c ∈ (Txt.partition z y).1.cps.toList, c ∈ z.cps.toList) ∧ (∀ c ∈ (Txt.partition z y).2.2.cps.toList, c ∈ z.cps.toList) := by
  rw [TL.partition_par z y (by show y.cps.toList ≠ []; rw [ey]; exact List.cons_ne_nil _ _)]
  show _
  have e : TL.tl y = [s] := ey
  rw [e]
  cases h : TL.par [s] [] (TL.tl z) with
  | none =>
    exact ⟨Nat.le_refl _, Nat.zero_le _, fun c hc => hc, fun c hc => (nomatch hc)⟩
  | some p =>
    obtain ⟨a, b⟩ := p
    obtain ⟨z1, z2, z3⟩ := par_len _ _ _ _ h
    have l := str_len z
    simp only [List.length_nil, Nat.zero_add] at z1
    replace z1 : a.length + b.length + 1 = z.cps.toList.length := z1
    refine ⟨?_, ?_, fun c hc => ?_, fun c hc => ?_⟩
    · show (⟨a.toArray⟩ : Str).length ≤ _
      rw [str_len]
      show a.length ≤ _
      omega
    · show (⟨b.toArray⟩ : Str).length ≤ _
      rw [str_len]
      show b.length ≤ _
      omega
    · rcases z2 c hc with q | q
      · cases q
      · exact q
    · exact z3 c hc
theorem cutS_len (z : Str) (lo hi : Option Int) : (cutS z lo hi).length ≤ z.length := L2.cutS_length z lo hi
/-! ### terms, sums, rows as texts -/
theorem blank_list : (" " : Str).cps.toList = [32] := by decide +kernel
theorem dot_list : ("." : Str).cps.toList = [46] := by decide +kernel
theorem line_list : ("\n" : Str).cps.toList = [10] := by decide +kernel
theorem plus_list : (" + " : Str).cps.toList = [32, 43, 32] := by decide +kernel
theorem is_list : (" = " : Str).cps.toList = [32, 61, 32] := by decide +kernel
theorem none_list : ("none" : Str).cps.toList = [110, 111, 110, 101] := by decide +kernel
theorem join_list (y : Str) (ps : List Str) : (Txt.join y ps).cps.toList = TL.joinL y.cps.toList (ps.map fun s => s.cps.toList) := by
  rw [TL.join_eq]
  exact TL.tl_join y ps
theorem joinL_cons {S a : List Nat} : ∀ (ws : List (List Nat)), TL.joinL S (a :: ws) = a ++ (ws.map fun w => S ++ w).flatten := fun ws => by
  induction ws generalizing a with
  | nil => exact (List.append_nil a).symm
  | cons b r ih =>
    show a ++ (S ++ TL.joinL S (b :: r)) = _
    rw [ih, List.map_cons, List.flatten_cons, List.append_assoc]
def wordT (p : Nat) (b : Int) : Str := numT (p : Int) ++ "." ++ numT b
def wordsT : Nat → List (Option Int) → List Str
  | _, [] => []
  | n, none :: bs => wordsT (n + 1) bs
  | n, some b :: bs => wordT n b :: wordsT (n + 1) bs
def termT (t : Tm) : Str := Txt.join " " (showFx t.1 :: wordsT 0 t.2)
def sumT (s : Sm) : Str := if s = [] then "none" else Txt.join " + " (s.map termT)
def rowT (m : Str) (i : Nat) (s : Sm) : Str := m ++ " " ++ numT (i : Int) ++ " = " ++ sumT s
def rowsFrom (m : Str) : Nat → Rl → List Str
  | _, [] => []
  | i, s :: r => rowT m i s :: rowsFrom m (i + 1) r
def headT (cs : List Int) : Str := Txt.join " " ("reader" :: cs.map numT)
def ruleRows (x : (Nat × Mk) × Rl) : List Str := rowsFrom x.1.2.1 0 x.2
def rowsR (w : Wd) (r : Rd) : List Str := headT r.1 :: (((tabFrom 0 w).zip r.2).map ruleRows).flatten
def readerT (w : Wd) (r : Rd) : Str := Txt.join "\n" (rowsR w r)
theorem rowsFrom_len (m : Str) : ∀ (r : Rl) (i : Nat), (rowsFrom m i r).length = r.length
  | [], _ => rfl
  | s :: r, i => by
    show (rowsFrom m (i + 1) r).length + 1 = r.length + 1
    rw [rowsFrom_len m r]
theorem rowsFrom_at (m : Str) : ∀ (r : Rl) (i j : Nat) (s : Sm), r[j]? = some s → (rowsFrom m i r)[j]? = some (rowT m (i + j) s)
  | [], _, _, _, h => by simp at h
  | a :: r, i, 0, s, h => by
    cases h
    rfl
  | a :: r, i, j + 1, s, h => by
    have z := rowsFrom_at m r (i + 1) j s h
    show (rowsFrom m (i + 1) r)[j]? = _
    rw [z]
    congr 2
    omega
theorem rowsFrom_snoc (m : Str) : ∀ (r : Rl) (i : Nat) (s : Sm), rowsFrom m i (r ++ [s]) = rowsFrom m i r ++ [rowT m (i + r.length) s]
  | [], _, _ => rfl
  | a :: r, i, s => by
    show rowT m i a :: rowsFrom m (i + 1) (r ++ [s]) = rowT m i a :: (rowsFrom m (i + 1) r ++ [_])
    rw [rowsFrom_snoc m r (i + 1) s]
    congr 4
    rw [List.length_cons]
    omega
theorem wordsT_snoc : ∀ (bs : List (Option Int)) (n : Nat) (b : Option Int), wordsT n (bs ++ [b]) = wordsT n bs ++ (match b with | none => [] | some i => [wordT (n + bs.length) i])
  | [], n, none => rfl
  | [], n, some i => rfl
  | none :: bs, n, b => by
    show wordsT (n + 1) (bs ++ [b]) = wordsT (n + 1) bs ++ _
    rw [wordsT_snoc bs (n + 1) b, List.length_cons, show n + 1 + bs.length = n + (bs.length + 1) by omega]
  | some i :: bs, n, b => by
    show wordT n i :: wordsT (n + 1) (bs ++ [b]) = wordT n i :: (wordsT (n + 1) bs ++ _)
    rw [wordsT_snoc bs (n + 1) b, List.length_cons, show n + 1 + bs.length = n + (bs.length + 1) by omega]
theorem termT_list (t : Tm) : (termT t).cps.toList = (showFx t.1).cps.toList ++ ((wordsT 0 t.2).map fun w => 32 :: w.cps.toList).flatten := by
  unfold termT
  rw [join_list, List.map_cons, joinL_cons, blank_list, List.map_map]
  rfl
/-! ### reading -/
def numIn (s : Str) : Option Int := if (1 ≤ s.length ∧ s.length ≤ 2) ∧ (∀ c ∈ s.cps.toList, c ∈ figS.cps.toList) ∧ (s = "0" ∨ s.cps.toList.headD 0 ≠ 48) then some (intT s) else none
def wordStep (many : Nat) (st : List (Option Int) × Int) (word : Str) : Option (List (Option Int) × Int) :=
  if ((Txt.partition word ".").1 = "0" ∨ (Txt.partition word ".").1 = "1") ∧ (Txt.partition word ".").2.1 = "." then
    (if st.2 ≤ intT (Txt.partition word ".").1 ∧ intT (Txt.partition word ".").1 < (many : Int) then
      (match numIn (Txt.partition word ".").2.2 with
        | none => none
        | some b => some (st.1.set (intT (Txt.partition word ".").1).toNat (some b), intT (Txt.partition word ".").1 + 1))
    else none)
  else none
def wordsF (many : Nat) : List (Option Int) × Int → List Str → Option (List (Option Int) × Int)
  | st, [] => some st
  | st, x :: xs => match wordStep many st x with
    | none => none
    | some st' => wordsF many st' xs
def readTm (many : Nat) (s : Str) : Option Tm := match Txt.split s " " with
  | [] => none
  | p :: rest => match readFx p with
    | none => none
    | some f => match wordsF many (List.replicate many none, 0) rest with
      | none => none
      | some st => some (f, st.1)
theorem one_numT : numT 1 = "1" := by decide +kernel
theorem numIn_num {b : Int} (h0 : 0 ≤ b) (h1 : b < 100) : numIn (numT b) = some b := by
  obtain ⟨n, rfl⟩ := Int.eq_ofNat_of_zero_le h0
  have hn : n < 10 ^ 2 := by omega
  have l := TL.numL_len (by decide) hn
  have ne := TL.numL_ne n
  have e : (numT (n : Int)).cps.toList = TL.numL n := by rw [numT_tl, numTL_nat]
  have el : (numT (n : Int)).length = (TL.numL n).length := by rw [str_len, e]
  unfold numIn
  rw [if_pos, intT_num (k := 2) (by show n < 10 ^ 2; exact hn) (by decide) (by decide)]
  refine ⟨⟨by rw [el]; exact List.length_pos_iff.2 ne, by rw [el]; exact l⟩, fun c hc => fig_mem.2 (by rw [e] at hc; exact TL.numL_digits n c hc), ?_⟩
  rcases Nat.eq_zero_or_pos n with z | z
  · subst z
    exact .inl numT_zero
  · rw [e]
    exact .inr (numL_head z)
theorem wordT_part (n : Nat) (b : Int) : Txt.partition (wordT n b) "." = (numT (n : Int), ("." : Str), numT b) := TL.partition_app dot_list (by
  show 46 ∉ (numT (n : Int)).cps.toList
  rw [numT_tl]
  exact numTL_free (by decide) (.inl (by decide)))
theorem numT_two {n : Nat} (h : n < 2) : numT (n : Int) = "0" ∨ numT (n : Int) = "1" := by
  rcases n with _ | _ | n
  · exact .inl numT_zero
  · exact .inr one_numT
  · omega
theorem wordStep_at {many n : Nat} {b : Int} {st : List (Option Int) × Int} (hn : n < many) (hm : many ≤ 2) (hl : st.2 ≤ (n : Int)) (h0 : 0 ≤ b) (h1 : b < 100) : wordStep many st (wordT n b) = some (st.1.set n (some b), (n : Int) + 1) := by
  have i1 := intT_num (i := (n : Int)) (k := 1) (by show n < 10 ^ 1; omega) (by decide) (by decide)
  unfold wordStep
  rw [wordT_part]
  show (if ((numT (n : Int)) = "0" ∨ (numT (n : Int)) = "1") ∧ ("." : Str) = "." then (if st.2 ≤ intT (numT (n : Int)) ∧ intT (numT (n : Int)) < (many : Int) then (match numIn (numT b) with | none => none | some b => some (st.1.set (intT (numT (n : Int))).toNat (some b), intT (numT (n : Int)) + 1)) else none) else none) = _
  rw [if_pos ⟨numT_two (by omega), rfl⟩, i1, if_pos ⟨hl, by omega⟩, numIn_num h0 h1]
  rfl
theorem set_mid {α : Type} (a : List α) (x y : α) (b : List α) : (a ++ x :: b).set a.length y = a ++ y :: b := by
  rw [List.set_append_right _ _ (Nat.le_refl _), Nat.sub_self]
  rfl
theorem wordsF_back {many : Nat} (hm : many ≤ 2) : ∀ (bs pre : List (Option Int)) (least : Int), pre.length + bs.length = many → least ≤ (pre.length : Int) → (∀ b : Int, some b ∈ bs → 0 ≤ b ∧ b < 100) →
    ∃ l, wordsF many (pre ++ List.replicate bs.length none, least) (wordsT pre.length bs) = some (pre ++ bs, l)
  | [], pre, least, _, _, _ => ⟨least, rfl⟩
  | none :: bs, pre, least, hl, hle, hb => by
    have z := wordsF_back hm bs (pre ++ [none]) least (by rw [List.length_append, List.length_singleton]; rw [List.length_cons] at hl; omega) (by rw [List.length_append]; omega) (fun b h => hb b (List.mem_cons_of_mem _ h))
    rw [List.length_append, List.length_singleton, List.append_assoc, List.append_assoc] at z
    exact z
  | some b :: bs, pre, least, hl, hle, hb => by
    have z := wordsF_back hm bs (pre ++ [some b]) ((pre.length : Int) + 1) (by rw [List.length_append, List.length_singleton]; rw [List.length_cons] at hl; omega) (by rw [List.length_append, List.length_singleton]; omega) (fun b h => hb b (List.mem_cons_of_mem _ h))
    rw [List.length_append, List.length_singleton, List.append_assoc, List.append_assoc] at z
    obtain ⟨l, z⟩ := z
    obtain ⟨b0, b1⟩ := hb b List.mem_cons_self
    rw [List.length_cons] at hl
    have st := wordStep_at (many := many) (n := pre.length) (b := b) (st := (pre ++ List.replicate (bs.length + 1) none, least)) (by omega) hm hle b0 b1
    refine ⟨l, ?_⟩
    show (match wordStep many (pre ++ List.replicate (bs.length + 1) none, least) (wordT pre.length b) with | none => none | some st' => wordsF many st' (wordsT (pre.length + 1) bs)) = _
    rw [st]
    show wordsF many ((pre ++ List.replicate (bs.length + 1) none).set pre.length (some b), _) _ = _
    rw [List.replicate_succ, set_mid]
    exact z
theorem showFx_sign (f : Fx) : ∀ c ∈ (showFx f).cps.toList, c = 45 ∨ c = 47 ∨ (48 ≤ c ∧ c ≤ 57) := fun c hc => by
  unfold showFx at hc
  split at hc
  · rw [numT_tl] at hc
    rcases numTL_sign c hc with h | h
    · exact .inl h
    · exact .inr (.inr h)
  · rw [app_list, app_list, numT_tl, numT_tl, slash_list] at hc
    rcases List.mem_append.1 hc with hc | hc
    · rcases List.mem_append.1 hc with hc | hc
      · rcases numTL_sign c hc with h | h
        · exact .inl h
        · exact .inr (.inr h)
      · exact .inr (.inl (List.mem_singleton.1 hc))
    · rcases numTL_sign c hc with h | h
      · exact .inl h
      · exact .inr (.inr h)
theorem wordT_sign (n : Nat) (b : Int) : ∀ c ∈ (wordT n b).cps.toList, c = 45 ∨ c = 46 ∨ (48 ≤ c ∧ c ≤ 57) := fun c hc => by
  unfold wordT at hc
  rw [app_list, app_list, numT_tl, numT_tl, dot_list] at hc
  rcases List.mem_append.1 hc with hc | hc
  · rcases List.mem_append.1 hc with hc | hc
    · rcases numTL_sign c hc with h | h
      · exact .inl h
      · exact .inr (.inr h)
    · exact .inr (.inl (List.mem_singleton.1 hc))
  · rcases numTL_sign c hc with h | h
    · exact .inl h
    · exact .inr (.inr h)
theorem wordsT_mem : ∀ (bs : List (Option Int)) (n : Nat) (s : Str), s ∈ wordsT n bs → ∃ k b, s = wordT k b
  | [], _, _, h => by cases h
  | none :: bs, n, s, h => wordsT_mem bs (n + 1) s h
  | some b :: bs, n, s, h => by
    rcases List.mem_cons.1 h with rfl | h
    · exact ⟨n, b, rfl⟩
    · exact wordsT_mem bs (n + 1) s h
theorem termT_split (t : Tm) : Txt.split (termT t) " " = showFx t.1 :: wordsT 0 t.2 := TL.split_join blank_list (by decide +kernel) (List.cons_ne_nil _ _) fun p hp => by
  show 32 ∉ p.cps.toList
  rcases List.mem_cons.1 hp with rfl | hp
  · intro z
    have := showFx_sign t.1 32 z
    omega
  · obtain ⟨k, b, rfl⟩ := wordsT_mem _ _ _ hp
    intro z
    have := wordT_sign k b 32 z
    omega
/-- a term that is read back -/
structure TmW (many : Nat) (t : Tm) : Prop where
  low : LowF t.1
  upper : t.1.1.natAbs < 10 ^ 30
  lower : t.1.2.natAbs < 10 ^ 30
  len : t.2.length = many
  box : ∀ b : Int, some b ∈ t.2 → 0 ≤ b ∧ b < 100
theorem readTm_back {many : Nat} {t : Tm} (hm : many ≤ 2) (h : TmW many t) : readTm many (termT t) = some t := by
  obtain ⟨l, z⟩ := wordsF_back hm t.2 [] 0 (by rw [List.length_nil, Nat.zero_add]; exact h.len) (by decide) h.box
  rw [List.nil_append, List.nil_append, h.len] at z
  unfold readTm
  rw [termT_split]
  show (match readFx (showFx t.1) with | none => none | some f => match wordsF many (List.replicate many none, 0) (wordsT 0 t.2) with | none => none | some st => some (f, st.1)) = _
  rw [readFx_show h.low h.upper h.lower]
  show (match wordsF many (List.replicate many none, 0) (wordsT 0 t.2) with | none => none | some st => some (t.1, st.1)) = _
  rw [show wordsF many (List.replicate many none, 0) (wordsT 0 t.2) = some (t.2, l) from z]
/-! ### sums -/
theorem termT_sign (t : Tm) : ∀ c ∈ (termT t).cps.toList, c = 32 ∨ (45 ≤ c ∧ c ≤ 57) := fun c hc => by
  rw [termT_list] at hc
  rcases List.mem_append.1 hc with hc | hc
  · have := showFx_sign t.1 c hc
    omega
  · obtain ⟨l, hl, hc⟩ := List.mem_flatten.1 hc
    obtain ⟨s, hs, rfl⟩ := List.mem_map.1 hl
    rcases List.mem_cons.1 hc with h | h
    · exact .inl h
    · obtain ⟨k, b, rfl⟩ := wordsT_mem _ _ _ hs
      have := wordT_sign k b c h
      omega
theorem showFx_head (f : Fx) : ∃ c r, (showFx f).cps.toList = c :: r ∧ (45 ≤ c ∧ c ≤ 57) := by
  have hn : ∀ i : Int, ∃ c r, numTL i = c :: r := fun i => by
    unfold numTL
    split
    · exact ⟨_, _, rfl⟩
    · cases e : TL.numL i.natAbs with
      | nil => exact absurd e (TL.numL_ne _)
      | cons c r => exact ⟨c, r, rfl⟩
  obtain ⟨c, r, e⟩ := hn f.1
  have hc := numTL_sign c (by rw [e]; exact List.mem_cons_self)
  unfold showFx
  split
  · exact ⟨c, r, by rw [numT_tl, e], by omega⟩
  · exact ⟨c, r ++ [47] ++ numTL f.2, by rw [app_list, app_list, numT_tl, numT_tl, slash_list, e]; rfl, by omega⟩
theorem termT_head (t : Tm) : ∃ c r, (termT t).cps.toList = c :: r ∧ (45 ≤ c ∧ c ≤ 57) := by
  obtain ⟨c, r, e, h⟩ := showFx_head t.1
  rw [termT_list, e]
  exact ⟨c, _, rfl, h⟩
/-- a part without a plus, behind it the sign of a sum -/
theorem plus_free {p q : List Nat} (h : 43 ∉ p) : ∀ i, i < p.length → TL.pre [32, 43, 32] ((p ++ ([32, 43, 32] ++ q)).drop i) = false := fun i hi => by
  have l0 : i + 1 < (p ++ ([32, 43, 32] ++ q)).length := by simp only [List.length_append, List.length_cons, List.length_nil]; omega
  have e1 : (p ++ ([32, 43, 32] ++ q)).drop i = (p ++ ([32, 43, 32] ++ q))[i] :: (p ++ ([32, 43, 32] ++ q))[i + 1] :: (p ++ ([32, 43, 32] ++ q)).drop (i + 1 + 1) := by
    rw [List.drop_eq_getElem_cons (by omega), List.drop_eq_getElem_cons l0]
  rw [e1]
  have nx : (p ++ ([32, 43, 32] ++ q))[i + 1] ≠ 43 := by
    by_cases c : i + 1 < p.length
    · rw [List.getElem_append_left c]
      exact fun z => h (by rw [← z]; exact List.getElem_mem c)
    · rw [List.getElem_append_right (by omega)]
      have : i + 1 - p.length = 0 := by omega
      simp only [this]
      show (32 : Nat) ≠ 43
      decide
  generalize (p ++ ([32, 43, 32] ++ q))[i + 1] = y at nx
  cases hp : TL.pre [32, 43, 32] ((p ++ ([32, 43, 32] ++ q))[i] :: y :: (p ++ ([32, 43, 32] ++ q)).drop (i + 1 + 1)) with
  | false => rfl
  | true =>
    unfold TL.pre at hp
    have z2 := congrArg (fun l : List Nat => l[1]?) (eq_of_beq hp)
    exact absurd (Option.some.inj z2) nx
theorem plus_last {p : List Nat} (h : 43 ∉ p) : ∀ i, i < p.length → TL.pre [32, 43, 32] (p.drop i) = false := fun i hi => by
  cases hp : TL.pre [32, 43, 32] (p.drop i) with
  | false => rfl
  | true =>
    have z := eq_of_beq (show ((p.drop i).take 3 == [32, 43, 32]) = true from hp)
    refine absurd ?_ h
    have : 43 ∈ (p.drop i).take 3 := by rw [z]; decide
    exact List.mem_of_mem_drop (List.mem_of_mem_take this)
theorem spl_plus : ∀ (ps : List (List Nat)), ps ≠ [] → (∀ p ∈ ps, 43 ∉ p) → TL.spl [32, 43, 32] 0 [] (TL.joinL [32, 43, 32] ps) = ps
  | [], h, _ => absurd rfl h
  | [p], _, hp => by
    show TL.spl [32, 43, 32] 0 [] p = [p]
    rw [TL.spl_last (plus_last (hp p List.mem_cons_self))]
    rfl
  | p :: q :: r, _, hp => by
    show TL.spl [32, 43, 32] 0 [] (p ++ ([32, 43, 32] ++ TL.joinL [32, 43, 32] (q :: r))) = _
    rw [TL.spl_part (List.cons_ne_nil _ _) (plus_free (hp p List.mem_cons_self)), spl_plus (q :: r) (List.cons_ne_nil _ _) fun z hz => hp z (List.mem_cons_of_mem _ hz)]
    rfl
theorem sum_split {ss : List Str} (hne : ss ≠ []) (h : ∀ s ∈ ss, 43 ∉ s.cps.toList) : Txt.split (Txt.join " + " ss) " + " = ss := by
  refine TL.map_tl_inj ?_
  rw [TL.split_spl _ _ (by show (" + " : Str).cps.toList ≠ []; rw [plus_list]; exact List.cons_ne_nil _ _) (TL.kind_ok (by decide +kernel))]
  show TL.spl (" + " : Str).cps.toList 0 [] (Txt.join " + " ss).cps.toList = ss.map fun s => s.cps.toList
  rw [join_list, plus_list]
  refine spl_plus _ (fun z => hne (List.map_eq_nil_iff.1 z)) fun p hp => ?_
  obtain ⟨s, hs, rfl⟩ := List.mem_map.1 hp
  exact h s hs
theorem sumT_split {s : Sm} (h : s ≠ []) : Txt.split (sumT s) " + " = s.map termT := by
  unfold sumT
  rw [if_neg h]
  refine sum_split (fun z => h (List.map_eq_nil_iff.1 z)) fun x hx z => ?_
  obtain ⟨t, _, rfl⟩ := List.mem_map.1 hx
  have := termT_sign t 43 z
  omega
theorem sumT_none {s : Sm} : sumT s = "none" ↔ s = [] := by
  refine ⟨fun h => ?_, fun h => if_pos h⟩
  cases s with
  | nil => rfl
  | cons t s =>
    obtain ⟨c, r, e, hc⟩ := termT_head t
    have z := congrArg (fun s : Str => s.cps.toList) h
    unfold sumT at z
    rw [if_neg (List.cons_ne_nil _ _)] at z
    replace z : (Txt.join " + " ((t :: s).map termT)).cps.toList = ("none" : Str).cps.toList := z
    rw [none_list, join_list, List.map_cons, List.map_cons, joinL_cons, e] at z
    have := (List.cons.inj z).1
    omega
end Bk
set_option Elab.async false
set_option linter.all false
set_option maxRecDepth 100000
set_option maxHeartbeats 4000000
/-! Bk74: contracts of readers as texts -/
namespace Bk
open PySem PySem.Spec PyProof.Rows L2
def spNeedT (C : Addr) : Sp := fun vs H Q E => ∃ (b : Bool) (x : V), vs = [.bl b, x] ∧ (b = true → Q .non H) ∧ (b = false → ∀ d H', Ex H H' → H' d = some (.xd [("row", x)]) → E (.ref C) (some d) H')
def spShowFx : Sp := fun vs H Q _ => ∃ (p : Addr) (f : Fx), vs = [.ref p] ∧ H p = some (.tup [.int f.1, .int f.2]) ∧ Bits 1900 f.1 ∧ Bits 1900 f.2 ∧ Q (.str (showFx f)) H
def spIsFigs : Sp := fun vs H Q _ => ∃ z : Str, vs = [.str z] ∧ z.length ≤ 500000 ∧ ∀ H', Ex H H' → Q (.bl (isFigs z)) H'
def spReadFx (C : Addr) : Sp := fun vs H Q E => ∃ z : Str, vs = [.str z] ∧ z.length ≤ 500000 ∧ (readFx z = none → ∀ d H', Ex H H' → H' d = some (.xd [("row", .int 0)]) → E (.ref C) (some d) H') ∧
  ∀ f, readFx z = some f → ∀ q H', Ex H H' → H' q = some (.tup [.int f.1, .int f.2]) → Q (.ref q) H'
def spTermT : Sp := fun vs H Q _ => ∃ (t : Tm) (v : V), vs = [v] ∧ Rep H (tmD t) v ∧ t.2.length ≤ 10 ∧ Bits 1000 t.1.1 ∧ Bits 1000 t.1.2 ∧ (∀ b : Int, some b ∈ t.2 → Bits 100 b) ∧ ∀ H', Ex H H' → Q (.str (termT t)) H'
theorem wordsT_len : ∀ (bs : List (Option Int)) (n : Nat), (wordsT n bs).length ≤ bs.length
  | [], _ => Nat.le_refl _
  | none :: bs, n => Nat.le_succ_of_le (wordsT_len bs (n + 1))
  | some b :: bs, n => Nat.succ_le_succ (wordsT_len bs (n + 1))
theorem small_bits {n : Nat} (h : n ≤ 1000) : Bits 10 (n : Int) := by
  show n < 2 ^ 10
  omega
theorem wordT_len {n : Nat} {b : Int} (hn : n ≤ 1000) (h : Bits 100 b) : (wordT n b).length ≤ 200 := by
  have l1 := numT_bits (small_bits hn)
  have l2 := numT_bits h
  unfold wordT
  rw [app_len, app_len]
  show _ + 1 + _ ≤ _
  omega
theorem wordsT_in : ∀ (bs : List (Option Int)) (n : Nat) (s : Str), s ∈ wordsT n bs → ∃ k b, s = wordT k b ∧ k < n + bs.length ∧ some b ∈ bs
  | [], _, _, h => by cases h
  | none :: bs, n, s, h => by
    obtain ⟨k, b, e, hk, hb⟩ := wordsT_in bs (n + 1) s h
    exact ⟨k, b, e, by rw [List.length_cons]; omega, List.mem_cons_of_mem _ hb⟩
  | some b :: bs, n, s, h => by
    rcases List.mem_cons.1 h with rfl | h
    · exact ⟨n, b, rfl, by rw [List.length_cons]; omega, List.mem_cons_self⟩
    · obtain ⟨k, b, e, hk, hb⟩ := wordsT_in bs (n + 1) s h
      exact ⟨k, b, e, by rw [List.length_cons]; omega, List.mem_cons_of_mem _ hb⟩
theorem showFx_len {f : Fx} {n : Nat} (h1 : Bits n f.1) (h2 : Bits n f.2) (hn : 0 < n := by decide) : (showFx f).length ≤ 2 * n + 3 := by
  have l1 := numT_bits h1 hn
  have l2 := numT_bits h2 hn
  unfold showFx
  split
  · omega
  · rw [app_len, app_len]
    show _ + 1 + _ ≤ _
    omega
/-- a term's text as the program puts it together -/
theorem termT_is (t : Tm) : showFx t.1 ++ Txt.join "" ((wordsT 0 t.2).map fun s => (" " : Str) ++ s) = termT t := str_ext (by
  rw [app_list, joinE, termT_list, List.map_map]
  congr 2
  refine List.map_congr_left fun s _ => ?_
  show ((" " : Str) ++ s).cps.toList = _
  rw [app_list, blank_list]
  rfl)
theorem wordT_is (n : Nat) (b : Int) : (Str.empty ++ " " ++ numT (n : Int) ++ "." ++ numT b) = (" " : Str) ++ wordT n b := str_ext (by
  unfold wordT
  rw [empty_app, app_list, app_list, app_list, app_list, app_list, app_list, List.append_assoc, List.append_assoc, List.append_assoc])
def spNumIn (C : Addr) : Sp := fun vs H Q E => ∃ (z : Str) (x : V), vs = [.str z, x] ∧ z.length ≤ 500000 ∧ (numIn z = none → ∀ d H', Ex H H' → H' d = some (.xd [("row", x)]) → E (.ref C) (some d) H') ∧
  ∀ n, numIn z = some n → ∀ H', Ex H H' → Q (.int n) H'
theorem numIn_none {s : Str} (h : ¬ ((1 ≤ s.length ∧ s.length ≤ 2) ∧ (∀ c ∈ s.cps.toList, c ∈ figS.cps.toList) ∧ (s = "0" ∨ s.cps.toList.headD 0 ≠ 48))) : numIn s = none := if_neg h
theorem numIn_some {s : Str} (h1 : 1 ≤ s.length ∧ s.length ≤ 2) (h2 : ∀ c ∈ s.cps.toList, c ∈ figS.cps.toList) (h3 : s = "0" ∨ s.cps.toList.headD 0 ≠ 48) : numIn s = some (intT s) ∧ intText? s = some (intT s) := by
  refine ⟨if_pos ⟨h1, h2, h3⟩, (int_digits (fun c hc => fig_mem.1 (h2 c hc)) (fun z => ?_) (by omega)).1⟩
  have := str_len s
  rw [z] at this
  simp only [List.length_nil] at this
  omega
/-- the first sign is the sign nought -/
theorem first_zero (c : Nat) : decide (V.str ⟨#[c]⟩ = V.str "0") = decide (c = 48) := by
  refine decide_eq_decide.2 ⟨fun e => ?_, fun e => ?_⟩
  · have e' : (⟨#[c]⟩ : Str) = "0" := by injection e
    have e2 := congrArg (fun s : Str => s.cps.toList) e'
    rw [zero_list] at e2
    exact (List.cons.inj e2).1
  · subst e
    exact congrArg V.str (str_ext zero_list.symm)
theorem readTm_some {many : Nat} {z : Str} {t : Tm} (h : readTm many z = some t) : ∃ p rest f st, Txt.split z " " = p :: rest ∧ readFx p = some f ∧ wordsF many (List.replicate many none, 0) rest = some st ∧ t = (f, st.1) := by
  unfold readTm at h
  split at h
  · cases h
  · rename_i p rest e
    split at h
    · cases h
    · rename_i f ef
      split at h
      · cases h
      · rename_i st es
        cases h
        exact ⟨p, rest, f, st, e, ef, es, rfl⟩
theorem wordsF_cons {many : Nat} {st fin : List (Option Int) × Int} {x : Str} {xs : List Str} (h : wordsF many st (x :: xs) = some fin) : ∃ st', wordStep many st x = some st' ∧ wordsF many st' xs = some fin := by
  unfold wordsF at h
  split at h
  · cases h
  · rename_i st' e
    exact ⟨st', e, h⟩
theorem wordStep_some {many : Nat} {st st' : List (Option Int) × Int} {x : Str} (h : wordStep many st x = some st') : ∃ n b, n < 2 ∧ (Txt.partition x ".").1 = numT ((n : Nat) : Int) ∧ (Txt.partition x ".").2.1 = "." ∧ st.2 ≤ (n : Int) ∧ n < many ∧ numIn (Txt.partition x ".").2.2 = some b ∧ st' = (st.1.set n (some b), (n : Int) + 1) := by
  unfold wordStep at h
  split at h
  · rename_i c
    have hn : ∃ n : Nat, n < 2 ∧ (Txt.partition x ".").1 = numT (n : Int) := by
      rcases c.1 with e | e
      · exact ⟨0, by decide, e.trans numT_zero.symm⟩
      · exact ⟨1, by decide, e.trans one_numT.symm⟩
    obtain ⟨n, n2, en⟩ := hn
    have it : intT (Txt.partition x ".").1 = (n : Int) := by rw [en]; exact intT_num (k := 1) (by show n < 10 ^ 1; omega) (by decide) (by decide)
    rw [it] at h
    split at h
    · rename_i d
      split at h
      · cases h
      · rename_i b eb
        cases h
        exact ⟨n, b, n2, en, c.2, d.1, by omega, eb, by rw [Int.toNat_natCast]⟩
    · cases h
  · cases h
theorem numT_int {n : Nat} (h : n < 2) : intText? (numT (n : Int)) = some (intT (numT (n : Int))) ∧ intT (numT (n : Int)) = (n : Int) ∧ (numT (n : Int)).length ≤ 640 := by
  refine ⟨(int_digits (by rw [numT_tl, numTL_nat]; exact TL.numL_digits n) (by rw [numT_tl, numTL_nat]; exact TL.numL_ne n) ?_).1, intT_num (k := 1) (by show n < 10 ^ 1; omega) (by decide) (by decide), ?_⟩
  · exact Nat.le_trans (numT_len (k := 1) (by decide) (by show n < 10 ^ 1; omega)) (by decide)
  · exact Nat.le_trans (numT_len (k := 1) (by decide) (by show n < 10 ^ 1; omega)) (by decide)
theorem rep_flat {α : Type} (x : α) : ∀ n : Nat, (List.replicate n [x]).flatten = List.replicate n x
  | 0 => rfl
  | n + 1 => by rw [List.replicate_succ, List.flatten_cons, rep_flat x n, List.replicate_succ]; rfl
theorem g_repN {H : Hp} {Q : VK} {l : Addr} {x : V} {n : Nat} (hl : H l = some (.lst [x])) (hn : n ≤ 1000) (h : ∀ p, H p = none → Q (.ref p) (upd H p (.lst (List.replicate n x)))) : rRep (.ref l) (.int (n : Int)) H Q := by
  refine ⟨l, _, _, rfl, rfl, hl, by omega, by omega, Nat.le_trans (by rw [Int.toNat_natCast]; show 1 * n ≤ 1000; omega : _ ≤ 1000) (by decide), fun p hp => ?_⟩
  rw [Int.toNat_natCast, rep_flat]
  exact h p hp
theorem g_inT2 {K : PySem.W.Frag} {H : Hp} {Q : VK} {p : Addr} {n a b : Str} (hp : H p = some (.tup [.str a, .str b])) (h : Q (.bl (decide (n ∈ [a, b]))) H) : uIn K false (.str n) (.ref p) H Q :=
  ⟨_, .inr (sqT hp), rfl, rfl, by rw [show [V.str a, V.str b] = ([a, b] : List Str).map V.str from rfl, inV_strs]; exact h⟩
theorem ixNat {m n : Nat} (h : n < m) : ixN m (n : Int) = some n := by
  unfold ixN
  rw [if_pos (by omega), if_pos (by omega)]
  rfl
def spReadTm : Sp := fun vs H Q E => ∃ (z : Str) (many : Nat) (x : V) (t : Tm), vs = [.str z, .int (many : Nat), x] ∧ z.length ≤ 400000 ∧ many ≤ 2 ∧ readTm many z = some t ∧ ∀ v H', Ex H H' → Rep H' (tmD t) v → Q v H'
end Bk
set_option Elab.async false
set_option linter.all false
set_option maxRecDepth 100000
set_option maxHeartbeats 4000000
/-! Bk75: how long readers' texts are -/
namespace Bk
open PySem PySem.Spec PyProof.Rows L2
/-! ### raised within an except suite -/
theorem g_iS {i j : Int} {gg : Int → Int → V} {C : Int → Int → Prop} {H : Hp} {Q : VK} (hc : C i j) (h : Q (gg i j) H) : uI C gg (.int i) (.int j) H Q := ⟨hc, h⟩
theorem g_iaddI {i j : Int} {H : Hp} {Q : VK} (h : Q (.int (i + j)) H) : uIadd (.int i) (.int j) H Q := h
/-! ### loops that nothing leaves: what stands behind them is out of sight -/
section
variable {J : It} {n : Nat} {G : Hp → Prop} {Y : Nat → Hp → V → Hp → Prop}
theorem for_itC (w : Walk J n G Y) {g : TG} {tb : TS} {D : Ends} {σ : L2.St} {H : Hp} (Pv : Nat → L2.St → Hp → Prop) (h0 : Pv 0 σ H) (hG : ∀ i σ H, i ≤ n → Pv i σ H → G H)
    (hs : ∀ (RT : VK) (BK : L2.St → Hp → Prop) i x σ H H', i < n → Pv i σ H → Y i H x H' → g x σ H' fun σ2 H2 => tb { nx := Pv (i + 1), rt := RT, bk := BK, ct := Pv (i + 1) } σ2 H2) (hd : ∀ σ H, Pv n σ H → D.nx σ H) :
    ∃ W : Nat → Nat → L2.St → Hp → Prop, (∃ m, W 0 m σ H) ∧ ∀ i m σ H, W i m σ H →
      (J.stop i H ∧ D.nx σ H) ∨ (J.go i H ∧ ∃ N : L2.St → Hp → Prop, (∀ σ' H', N σ' H' → ∃ m', m' < m ∧ W (i + 1) m' σ' H') ∧ ∀ x H', J.yld i H x H' → g x σ H' fun σ2 H2 => tb { D with nx := N, ct := N, bk := D.nx } σ2 H2) :=
  for_it w Pv h0 hG (fun i x σ H H' hi p y => hs D.rt D.nx i x σ H H' hi p y) hd
end
/-! ### how long the texts are -/
theorem FxOk.b10 {f : Fx} (h : FxOk f) : Bits 10 f.1 ∧ Bits 10 f.2 := by
  obtain ⟨a, b, c, d⟩ := h
  constructor
  · show _ < 2 ^ 10
    omega
  · show _ < 2 ^ 10
    omega
structure TmL (t : Tm) : Prop where
  upper : Bits 10 t.1.1
  lower : Bits 10 t.1.2
  two : t.2.length ≤ 2
  box : ∀ b : Int, some b ∈ t.2 → Bits 10 b
theorem TmL.len {t : Tm} (h : TmL t) : (termT t).length ≤ 700 := by
  have l1 := showFx_len h.upper h.lower
  have l2 := wordsT_len t.2 0
  have l3 := h.two
  have z := join_len (y := " ") (ps := showFx t.1 :: wordsT 0 t.2) (b := 200) fun s hs => by
    rcases List.mem_cons.1 hs with rfl | hs
    · omega
    · obtain ⟨k, b, rfl, hk, hb⟩ := wordsT_in _ _ _ hs
      exact wordT_len (by omega) ((h.box b hb).le (by decide))
  have e : (" " : Str).length = 1 := by decide
  rw [List.length_cons, e] at z
  have := Nat.mul_le_mul_right 201 (by omega : (wordsT 0 t.2).length + 1 ≤ 3)
  exact Nat.le_trans z (by omega)
theorem sumT_len {s : Sm} (hl : s.length ≤ 6) (h : ∀ t ∈ s, TmL t) : (sumT s).length ≤ 5000 := by
  unfold sumT
  split
  · decide
  · have z := join_len (y := " + ") (ps := s.map termT) (b := 700) fun x hx => by
      obtain ⟨t, ht, rfl⟩ := List.mem_map.1 hx
      exact (h t ht).len
    have e : (" + " : Str).length = 3 := by decide
    rw [List.length_map, e] at z
    have := Nat.mul_le_mul_right 703 hl
    omega
structure RlL (r : Rl) : Prop where
  many : r.length ≤ 4
  sums : ∀ s ∈ r, s.length ≤ 6 ∧ ∀ t ∈ s, TmL t
theorem rowT_len {m : Str} {i : Nat} {s : Sm} (hm : m.length ≤ 6) (hi : i ≤ 1000) (hl : s.length ≤ 6) (h : ∀ t ∈ s, TmL t) : (rowT m i s).length ≤ 5100 := by
  have l1 := numT_bits (small_bits hi)
  have l2 := sumT_len hl h
  unfold rowT
  rw [app_len, app_len, app_len, app_len]
  show m.length + 1 + _ + 3 + _ ≤ _
  omega
theorem RdOk.rll {w : Wd} (ok : WoodOk w) {r : Rd} (h : RdOk w r) {j : Nat} {e : Nat × Mk} {x : Rl} (h1 : (tabFrom 0 w)[j]? = some e) (h2 : r.2[j]? = some x) : RlL x := by
  obtain ⟨a, b⟩ := h.rule j e x h1 h2
  obtain ⟨d1, d2, d3, d4⟩ := dueOf_in ok (List.mem_of_getElem? h1)
  have c4 : cntAt r.1 e.1 ≤ 4 ∧ 0 ≤ cntAt r.1 e.1 := by
    unfold cntAt
    rw [List.getD_eq_getElem?_getD, List.getElem?_eq_getElem (by rw [h.counts]; omega)]
    have := h.count _ (List.getElem_mem (l := r.1) (n := ((e.1 : Nat) : Int).toNat) (by rw [h.counts]; omega))
    exact ⟨this.2, this.1⟩
  refine ⟨by omega, fun s hs => ?_⟩
  obtain ⟨s1, s2⟩ := b s hs
  refine ⟨s1, fun t ht => ?_⟩
  have tk := s2 t ht
  refine ⟨tk.num.b10.1, tk.num.b10.2, by rw [tk.len, d2]; exact d3, fun bb hb => ?_⟩
  obtain ⟨u, hu⟩ := List.mem_iff_getElem?.1 hb
  have lu := (List.getElem?_eq_some_iff.1 hu).1
  have tl := tk.len
  have eu := List.getElem?_eq_getElem (l := dueOf w e) (i := u) (by omega)
  have z := List.all_eq_true.1 tk.box _ (List.mem_of_getElem? (zip_at eu hu))
  replace z : decide (0 ≤ bb ∧ bb < cntAt r.1 ((dueOf w e)[u]'(by omega))) = true := z
  have z2 := of_decide_eq_true z
  obtain ⟨q0, q1⟩ := d4 _ (List.getElem_mem (by omega : u < (dueOf w e).length))
  have c5 : cntAt r.1 ((dueOf w e)[u]'(by omega)) ≤ 4 := by
    unfold cntAt
    rw [List.getD_eq_getElem?_getD, List.getElem?_eq_getElem (by rw [h.counts]; omega)]
    exact (h.count _ (List.getElem_mem _)).2
  show _ < 2 ^ 10
  omega
def spShowR : Sp := fun vs H Q _ => ∃ (w : Wd) (r : Rd) (wv rv : V), vs = [wv, rv] ∧ Rep H (woodD w) wv ∧ WoodOk w ∧ Rep H (rdD r) rv ∧ RdOk w r ∧ ∀ H', Ex H H' → Q (.str (readerT w r)) H'
theorem headT_len {cs : List Int} (hl : cs.length ≤ 4) (h : ∀ c ∈ cs, Bits 10 c) : (headT cs).length ≤ 5100 := by
  have z := join_len (y := " ") (ps := "reader" :: cs.map numT) (b := 20) fun s hs => by
    rcases List.mem_cons.1 hs with rfl | hs
    · decide
    · obtain ⟨c, hc, rfl⟩ := List.mem_map.1 hs
      exact Nat.le_trans (numT_bits (h c hc)) (by decide)
  have e : (" " : Str).length = 1 := by decide
  rw [List.length_cons, List.length_map, e] at z
  have := Nat.mul_le_mul_right 21 (by omega : cs.length + 1 ≤ 5)
  unfold headT
  omega
theorem RdOk.cbits {w : Wd} {r : Rd} (h : RdOk w r) : ∀ c ∈ r.1, Bits 10 c := fun c hc => by
  have := h.count c hc
  show _ < 2 ^ 10
  omega
/-- the rows of the first makers -/
def rowsTo (w : Wd) (r : Rd) (i : Nat) : List Str := headT r.1 :: ((((tabFrom 0 w).zip r.2).take i).map ruleRows).flatten
theorem rowsTo_step {w : Wd} {r : Rd} {j : Nat} {e : Nat × Mk} {x : Rl} (h1 : (tabFrom 0 w)[j]? = some e) (h2 : r.2[j]? = some x) : rowsTo w r (j + 1) = rowsTo w r j ++ rowsFrom e.2.1 0 x := by
  unfold rowsTo
  rw [take_at (zip_at h1 h2), List.map_append, List.flatten_append]
  show _ = headT r.1 :: (_ ++ rowsFrom e.2.1 0 x)
  simp only [List.map_cons, List.map_nil, List.flatten_cons, List.flatten_nil, List.append_nil]
  rfl
theorem rowsTo_all {w : Wd} {r : Rd} (h : r.2.length = (tabFrom 0 w).length) : rowsTo w r (tabFrom 0 w).length = rowsR w r := by
  unfold rowsTo rowsR
  rw [List.take_of_length_le (by rw [List.length_zip]; omega)]
theorem rowsTo_len {w : Wd} (ok : WoodOk w) {r : Rd} (h : RdOk w r) : ∀ j, j ≤ (tabFrom 0 w).length → (rowsTo w r j).length ≤ 1 + 4 * j
  | 0, _ => Nat.le_refl _
  | j + 1, hj => by
    have h1 := List.getElem?_eq_getElem (l := tabFrom 0 w) (i := j) (by omega)
    have h2 := List.getElem?_eq_getElem (l := r.2) (i := j) (by rw [h.rules]; omega)
    rw [rowsTo_step h1 h2, List.length_append, rowsFrom_len]
    have := rowsTo_len ok h j (by omega)
    have := (h.rll ok h1 h2).many
    omega
theorem rowsTo_row {w : Wd} (ok : WoodOk w) {r : Rd} (h : RdOk w r) : ∀ j, j ≤ (tabFrom 0 w).length → ∀ s ∈ rowsTo w r j, s.length ≤ 5100
  | 0, _, s, hs => by
    rw [List.mem_singleton.1 hs]
    exact headT_len (by rw [h.counts]; have := ok.kinds; omega) h.cbits
  | j + 1, hj, s, hs => by
    have h1 := List.getElem?_eq_getElem (l := tabFrom 0 w) (i := j) (by omega)
    have h2 := List.getElem?_eq_getElem (l := r.2) (i := j) (by rw [h.rules]; omega)
    rw [rowsTo_step h1 h2] at hs
    rcases List.mem_append.1 hs with hs | hs
    · exact rowsTo_row ok h j (by omega) s hs
    · obtain ⟨u, hu⟩ := List.mem_iff_getElem?.1 hs
      have lu := (List.getElem?_eq_some_iff.1 hu).1
      rw [rowsFrom_len] at lu
      have eu := List.getElem?_eq_getElem lu
      rw [rowsFrom_at _ _ _ _ _ eu] at hu
      cases hu
      have R := h.rll ok h1 h2
      obtain ⟨s1, s2⟩ := R.sums _ (List.getElem_mem lu)
      have nm := ok.low _ (show ((tabFrom 0 w)[j]'(by omega)).2.1 ∈ mkNames w by rw [← tab_names w 0]; exact List.mem_map.2 ⟨_, List.getElem_mem _, rfl⟩)
      exact rowT_len (isName_len6 nm) (by have := R.many; omega) s1 s2
def spTextOf : Sp := fun vs H Q _ => ∃ (p : Addr) (f : Fx), vs = [.ref p] ∧ H p = some (.tup [.int f.1, .int f.2]) ∧ Bits 80 f.1 ∧ Bits 80 f.2 ∧ Q (.str (showFx f)) H
def spRowsR : Sp := fun vs H Q _ => ∃ (w : Wd) (r : Rd) (wv rv : V), vs = [wv, rv] ∧ Rep H (woodD w) wv ∧ WoodOk w ∧ Rep H (rdD r) rv ∧ RdOk w r ∧ ∀ l H', H l = none → Ex H H' → H' l = some (.lst ((rowsR w r).map V.str)) → Q (.ref l) H'
/-- what a sum's text writes -/
def SmRead (many : Nat) (told : Str) (s : Sm) : Prop := (told = "none" ∧ s = []) ∨ (told ≠ "none" ∧ (Txt.split told " + ").map (readTm many) = s.map some ∧ (∀ p ∈ Txt.split told " + ", p.length ≤ 400000) ∧ (Txt.split told " + ").length ≤ 1000)
def spReadSm : Sp := fun vs H Q E => ∃ (z head : Str) (many : Nat) (x : V) (s : Sm), vs = [.str z, .str head, .int (many : Nat), x] ∧ z.length ≤ 400000 ∧ head.length ≤ 1000 ∧ many ≤ 2 ∧ Txt.startswith z head = true ∧ SmRead many (cutS z (some ((head.length : Nat) : Int)) none) s ∧
  ∀ v H', Ex H H' → Rep H' (smD s) v → Q v H'
theorem starts_app {a b : Str} (h : a ≠ "") : Txt.startswith (a ++ b) a = true := by
  have ne : a.cps.toList ≠ [] := fun z => h (str_ext (z.trans (by decide +kernel)))
  rw [starts_iff ne, app_list, List.take_left]
  exact beq_self_eq_true _
theorem cut_app (a b : Str) : cutS (a ++ b) (some ((a.length : Nat) : Int)) none = b := str_ext (by
  rw [cut_from (by rw [app_len]; omega), app_list, str_len a, List.drop_left])
theorem FxOk.small {f : Fx} (h : FxOk f) : f.1.natAbs < 10 ^ 30 ∧ f.2.natAbs < 10 ^ 30 := by
  obtain ⟨a, b, c, d⟩ := h
  exact ⟨by omega, by omega⟩
theorem TmOk.w {w : Wd} (ok : WoodOk w) {r : Rd} (h : RdOk w r) {e : Nat × Mk} (he : e ∈ tabFrom 0 w) {t : Tm} (k : TmOk r.1 (dueOf w e) t) : TmW e.2.2.length t := by
  obtain ⟨d1, d2, d3, d4⟩ := dueOf_in ok he
  have tl := k.len
  refine ⟨k.num.low, k.num.small.1, k.num.small.2, tl.trans d2, fun bb hb => ?_⟩
  obtain ⟨u, hu⟩ := List.mem_iff_getElem?.1 hb
  have lu := (List.getElem?_eq_some_iff.1 hu).1
  have eu := List.getElem?_eq_getElem (l := dueOf w e) (i := u) (by omega)
  have z := List.all_eq_true.1 k.box _ (List.mem_of_getElem? (zip_at eu hu))
  replace z : decide (0 ≤ bb ∧ bb < cntAt r.1 ((dueOf w e)[u]'(by omega))) = true := z
  have z2 := of_decide_eq_true z
  obtain ⟨q0, q1⟩ := d4 _ (List.getElem_mem (by omega : u < (dueOf w e).length))
  have c5 : cntAt r.1 ((dueOf w e)[u]'(by omega)) ≤ 4 := by
    unfold cntAt
    rw [List.getD_eq_getElem?_getD, List.getElem?_eq_getElem (by rw [h.counts]; omega)]
    exact (h.count _ (List.getElem_mem _)).2
  omega
theorem sm_read {many : Nat} {s : Sm} (hm : many ≤ 2) (hl : s.length ≤ 6) (h : ∀ t ∈ s, TmW many t) (k : ∀ t ∈ s, TmL t) : SmRead many (sumT s) s := by
  by_cases e : s = []
  · exact .inl ⟨sumT_none.2 e, e⟩
  · refine .inr ⟨fun z => e (sumT_none.1 z), ?_, fun p hp => ?_, ?_⟩
    · rw [sumT_split e, List.map_map]
      exact List.map_congr_left fun t ht => readTm_back hm (h t ht)
    · rw [sumT_split e] at hp
      obtain ⟨t, ht, rfl⟩ := List.mem_map.1 hp
      exact Nat.le_trans (k t ht).len (by decide)
    · rw [sumT_split e, List.length_map]
      omega
theorem rowsR_take {w : Wd} {r : Rd} (j : Nat) : rowsR w r = rowsTo w r j ++ ((((tabFrom 0 w).zip r.2).drop j).map ruleRows).flatten := by
  unfold rowsR rowsTo
  rw [List.cons_append, ← List.flatten_append, ← List.map_append, List.take_append_drop]
theorem rowsR_at {w : Wd} {r : Rd} {j b : Nat} {e : Nat × Mk} {x : Rl} {s : Sm} (h1 : (tabFrom 0 w)[j]? = some e) (h2 : r.2[j]? = some x) (h3 : x[b]? = some s) : (rowsR w r)[(rowsTo w r j).length + b]? = some (rowT e.2.1 b s) := by
  have lb := (List.getElem?_eq_some_iff.1 h3).1
  rw [rowsR_take (j + 1), rowsTo_step h1 h2, List.append_assoc, List.getElem?_append_right (by omega), Nat.add_sub_cancel_left, List.getElem?_append_left (by rw [rowsFrom_len]; exact lb), rowsFrom_at _ _ _ _ _ h3, Nat.zero_add]
theorem rowsTo_next {w : Wd} {r : Rd} {j : Nat} {e : Nat × Mk} {x : Rl} (h1 : (tabFrom 0 w)[j]? = some e) (h2 : r.2[j]? = some x) : (rowsTo w r (j + 1)).length = (rowsTo w r j).length + x.length := by
  rw [rowsTo_step h1 h2, List.length_append, rowsFrom_len]
theorem rowsTo_pos {w : Wd} {r : Rd} (j : Nat) : 1 ≤ (rowsTo w r j).length := Nat.succ_le_succ (Nat.zero_le _)
theorem headT_sign (cs : List Int) : ∀ c ∈ (headT cs).cps.toList, c = 32 ∨ c = 45 ∨ (48 ≤ c ∧ c ≤ 57) ∨ (97 ≤ c ∧ c ≤ 122) := fun c hc => by
  unfold headT at hc
  rw [join_list, List.map_cons, joinL_cons, blank_list] at hc
  rcases List.mem_append.1 hc with hc | hc
  · have e : ("reader" : Str).cps.toList = [114, 101, 97, 100, 101, 114] := by decide +kernel
    simp only [e, List.mem_cons, List.not_mem_nil, or_false] at hc
    omega
  · obtain ⟨l, hl, hc⟩ := List.mem_flatten.1 hc
    obtain ⟨m, hm, rfl⟩ := List.mem_map.1 hl
    rcases List.mem_append.1 hc with hc | hc
    · exact .inl (List.mem_singleton.1 hc)
    · obtain ⟨n, hn, rfl⟩ := List.mem_map.1 hm
      obtain ⟨i, hi, rfl⟩ := List.mem_map.1 hn
      rw [numT_tl] at hc
      have := numTL_sign c hc
      omega
theorem sumT_sign (s : Sm) : ∀ c ∈ (sumT s).cps.toList, c = 32 ∨ c = 43 ∨ (45 ≤ c ∧ c ≤ 57) ∨ (97 ≤ c ∧ c ≤ 122) := fun c hc => by
  unfold sumT at hc
  split at hc
  · simp only [none_list, List.mem_cons, List.not_mem_nil, or_false] at hc
    omega
  · cases s with
    | nil => rename_i h; exact absurd rfl h
    | cons t s =>
      rw [join_list, List.map_cons, List.map_cons, joinL_cons, plus_list] at hc
      rcases List.mem_append.1 hc with hc | hc
      · have := termT_sign t c hc
        omega
      · obtain ⟨l, hl, hc⟩ := List.mem_flatten.1 hc
        obtain ⟨m, hm, rfl⟩ := List.mem_map.1 hl
        rcases List.mem_append.1 hc with hc | hc
        · simp only [List.mem_cons, List.not_mem_nil, or_false] at hc
          omega
        · obtain ⟨n, hn, rfl⟩ := List.mem_map.1 hm
          obtain ⟨x, hx, rfl⟩ := List.mem_map.1 hn
          have := termT_sign x c hc
          omega
theorem rowT_sign {m : Str} (hm : Low m) (i : Nat) (s : Sm) : ∀ c ∈ (rowT m i s).cps.toList, c = 32 ∨ c = 43 ∨ c = 61 ∨ (45 ≤ c ∧ c ≤ 57) ∨ (97 ≤ c ∧ c ≤ 122) := fun c hc => by
  unfold rowT at hc
  rw [app_list, app_list, app_list, app_list, blank_list, is_list, numT_tl] at hc
  simp only [List.mem_append, List.mem_cons, List.not_mem_nil, or_false] at hc
  rcases hc with (((hc | hc) | hc) | hc) | hc
  · obtain ⟨k, hk, rfl⟩ := letters_mem.1 (hm c hc)
    omega
  · omega
  · have := numTL_sign c hc
    omega
  · omega
  · have := sumT_sign s c hc
    omega
theorem rowsR_line {w : Wd} (ok : WoodOk w) {r : Rd} (h : RdOk w r) : ∀ s ∈ rowsR w r, 10 ∉ s.cps.toList := fun s hs z => by
  rcases List.mem_cons.1 hs with rfl | hs
  · have := headT_sign r.1 10 z
    omega
  · obtain ⟨l, hl, hs⟩ := List.mem_flatten.1 hs
    obtain ⟨x, hx, rfl⟩ := List.mem_map.1 hl
    obtain ⟨j, hj⟩ := List.mem_iff_getElem?.1 hx
    have lj := (List.getElem?_eq_some_iff.1 hj).1
    rw [List.length_zip] at lj
    obtain ⟨u, hu⟩ := List.mem_iff_getElem?.1 hs
    have lu := (List.getElem?_eq_some_iff.1 hu).1
    unfold ruleRows at lu hu
    rw [rowsFrom_len] at lu
    rw [rowsFrom_at _ _ _ _ _ (List.getElem?_eq_getElem lu)] at hu
    cases hu
    have mx : x.1 ∈ tabFrom 0 w := (List.of_mem_zip hx).1
    have nm := ok.low _ (show x.1.2.1 ∈ mkNames w by rw [← tab_names w 0]; exact List.mem_map.2 ⟨_, mx, rfl⟩)
    have := rowT_sign (isName_low nm) _ _ 10 z
    omega
theorem readerT_split {w : Wd} (ok : WoodOk w) {r : Rd} (h : RdOk w r) : Txt.split (readerT w r) "\n" = rowsR w r := TL.split_join line_list (by decide +kernel) (List.cons_ne_nil _ _) (rowsR_line ok h)
theorem headT_split (cs : List Int) : Txt.split (headT cs) " " = ("reader" : Str) :: cs.map numT := TL.split_join blank_list (by decide +kernel) (List.cons_ne_nil _ _) fun p hp z => by
  replace z : 32 ∈ p.cps.toList := z
  rcases List.mem_cons.1 hp with rfl | hp
  · exact absurd z (by decide +kernel)
  · obtain ⟨c, _, rfl⟩ := List.mem_map.1 hp
    rw [numT_tl] at z
    have := numTL_sign 32 z
    omega
theorem readerT_len {w : Wd} (ok : WoodOk w) {r : Rd} (h : RdOk w r) : (readerT w r).length ≤ 300000 := by
  have rl := rowsTo_len ok h (tabFrom 0 w).length (Nat.le_refl _)
  have rr := rowsTo_row ok h (tabFrom 0 w).length (Nat.le_refl _)
  rw [rowsTo_all h.rules] at rl rr
  have tabl := ok.many
  have z := join_len (y := "\n") (ps := rowsR w r) (b := 5100) rr
  have e : ("\n" : Str).length = 1 := by decide
  rw [e] at z
  have := Nat.mul_le_mul_right 5101 (by omega : (rowsR w r).length ≤ 49)
  unfold readerT
  omega
/-! ### a reader that is let by -/
theorem dueTm_ok {cs ps : List Int} {t : Tm} (h : TmOk cs ps t) : dueTm cs ps t = none := by
  unfold dueTm
  rw [if_pos ⟨h.num.1, h.num.2.1⟩, if_pos h.len, if_pos h.box]
theorem dueTms_ok {cs ps : List Int} : ∀ {ts : List Tm}, (∀ t ∈ ts, TmOk cs ps t) → dueTms cs ps ts = none
  | [], _ => rfl
  | t :: ts, h => by
    unfold dueTms
    rw [dueTm_ok (h t List.mem_cons_self), dueTms_ok fun x hx => h x (List.mem_cons_of_mem _ hx)]
    rfl
theorem dueSms_ok {cs ps : List Int} : ∀ {ss : List Sm}, (∀ s ∈ ss, ∀ t ∈ s, TmOk cs ps t) → dueSms cs ps ss = none
  | [], _ => rfl
  | s :: ss, h => by
    unfold dueSms
    rw [dueTms_ok (h s List.mem_cons_self), dueSms_ok fun x hx => h x (List.mem_cons_of_mem _ hx)]
    rfl
theorem dueRls_ok {cs : List Int} {w : Wd} : ∀ {xs : List ((Nat × Mk) × Rl)}, (∀ x ∈ xs, (x.2.length : Int) = cntAt cs x.1.1 ∧ ∀ s ∈ x.2, ∀ t ∈ s, TmOk cs (dueOf w x.1) t) → dueRls cs w xs = none
  | [], _ => rfl
  | x :: xs, h => by
    obtain ⟨a, b⟩ := h x List.mem_cons_self
    unfold dueRls dueRl
    rw [if_pos a, dueSms_ok b, dueRls_ok fun y hy => h y (List.mem_cons_of_mem _ hy)]
    rfl
theorem dueRd_ok {w : Wd} {r : Rd} (h : RdOk w r) : dueRd w r = none := by
  unfold dueRd
  rw [if_pos, if_pos h.rules]
  · refine dueRls_ok fun x hx => ?_
    obtain ⟨j, hj⟩ := List.mem_iff_getElem?.1 hx
    have lj := (List.getElem?_eq_some_iff.1 hj).1
    rw [List.length_zip] at lj
    have e1 := List.getElem?_eq_getElem (l := tabFrom 0 w) (i := j) (by omega)
    have e2 := List.getElem?_eq_getElem (l := r.2) (i := j) (by omega)
    rw [zip_at e1 e2] at hj
    cases hj
    obtain ⟨a, b⟩ := h.rule j _ _ e1 e2
    exact ⟨a, fun s hs t ht => (b s hs).2 t ht⟩
  · unfold cntsOk
    rw [decide_eq_true h.counts, Bool.true_and, List.all_eq_true]
    exact fun c hc => decide_eq_true (h.count c hc)
def spReadR : Sp := fun vs H Q _ => ∃ (w : Wd) (r : Rd) (wv : V), vs = [wv, .str (readerT w r)] ∧ Rep H (woodD w) wv ∧ WoodOk w ∧ RdOk w r ∧ ∀ v H', Ex H H' → Rep H' (rdD r) v → Q v H'
/-! ### how great a reader is -/
theorem boxes_size (bs : List (Option Int)) : D.sizes (bs.map bxD) ≤ bs.length * 1 := sizes_map fun b _ => by cases b <;> exact Nat.le_refl 1
theorem tm_size {t : Tm} (h : t.2.length ≤ 2) : (tmD t).size ≤ 8 := by
  have z := boxes_size t.2
  show 1 + ((1 + (1 + (1 + 0))) + ((1 + D.sizes (t.2.map bxD)) + 0)) ≤ 8
  omega
theorem sm_size {s : Sm} (hl : s.length ≤ 6) (h : ∀ t ∈ s, t.2.length ≤ 2) : (smD s).size ≤ 49 := by
  have z := sizes_map (f := tmD) (b := 8) (xs := s) fun t ht => tm_size (h t ht)
  show 1 + D.sizes (s.map tmD) ≤ 49
  omega
theorem rl_size {r : Rl} (h : RlL r) : (rlD r).size ≤ 197 := by
  have z := sizes_map (f := smD) (b := 49) (xs := r) fun s hs => sm_size (h.sums s hs).1 fun t ht => ((h.sums s hs).2 t ht).two
  have := h.many
  show 1 + D.sizes (r.map smD) ≤ 197
  omega
theorem rd_size {w : Wd} (ok : WoodOk w) {r : Rd} (h : RdOk w r) : (rdD r).size ≤ 400000 := by
  have tabl := ok.many
  have kds := ok.kinds
  have z := sizes_map (f := rlD) (b := 197) (xs := r.2) fun x hx => by
    obtain ⟨j, hj⟩ := List.mem_iff_getElem?.1 hx
    have lj := (List.getElem?_eq_some_iff.1 hj).1
    exact rl_size (h.rll ok (List.getElem?_eq_getElem (l := tabFrom 0 w) (i := j) (by rw [← h.rules]; exact lj)) hj)
  have y := ints_size r.1
  have l1 := h.counts
  have l2 := h.rules
  show 1 + ((1 + D.sizes (r.1.map D.int)) + ((1 + D.sizes (r.2.map rlD)) + 0)) ≤ 400000
  omega
def spRight16 : Sp := fun vs H Q _ => ∃ (w : Wd) (r : Rd) (wv rv : V), vs = [wv, rv] ∧ Rep H (woodD w) wv ∧ WoodOk w ∧ Rep H (rdD r) rv ∧ RdOk w r ∧ ∀ H', Ex H H' → Q (.bl true) H'
def AskedR (H : Hp) (x : V) : Prop := ∃ (a : Addr) (w : Wd) (r : Rd) (wv rv : V), x = .ref a ∧ H a = some (.tup [wv, rv]) ∧ Rep H (woodD w) wv ∧ WoodOk w ∧ Rep H (rdD r) rv ∧ RdOk w r
theorem AskedR.tk {H H' : Hp} {x : V} (h : AskedR H x) (e : Tk H H') : AskedR H' x := by
  obtain ⟨a, w, r, wv, rv, h1, h2, h3, h4, h5, h6⟩ := h
  exact ⟨a, w, r, wv, rv, h1, e _ _ h2, h3.tk e (wood_hard w), h4, h5.tk e (rd_hard r), h6⟩
end Bk
namespace Lw
open PySem PySem.Spec PyProof.Rows L2 Bk
local macro_rules | `(tactic| walk_at "side") => `(tactic| first | assumption | decide | omega | exact .inl (.inl ⟨by decide, by decide⟩) | exact .inl (.inr ⟨by decide, by decide⟩) | exact ⟨by decide, by decide, by decide⟩ | exact ⟨by decide, by decide⟩)
local macro_rules | `(tactic| walk_at "heap") => `(tactic| first | assumption | exact upd_same | (refine Eq.trans (upd_ne (ne_of_none (by assumption) (by assumption))) ?_; assumption))
local macro_rules | `(tactic| walk_at "go1") => `(tactic| with_reducible first
  | refine g_seq ?_ | refine g_asg ?_ | refine g_ret ?_ | refine g_retN ?_ | refine g_drop ?_ | refine g_ifs ?_ | refine g_next ?_ | refine g_par ?_ | refine g_pair ?_ | refine g_name ?_ | refine g_sub ?_
  | refine g_c ?_ | refine g_op ?_ | refine g_un ?_ | refine g_cons ?_ | refine g_nil ?_ | refine g_cb ?_ | refine g_call ?_ | refine g_if ?_ | refine g_iT ?_ | refine g_iF ?_ | refine g_iNT ?_ | refine g_iNF ?_ | refine g_notV ?_ | refine g_not ?_ | refine g_and ?_ | refine g_or ?_
  | refine g_uT ?_ | refine g_test ?_ | refine g_tB ?_ | refine g_bl ?_ | refine g_chain ?_ | refine g_andV ?_ | refine g_orV ?_ | refine g_tbl ?_ | refine g_tin ?_ | refine g_addI ?_ | refine g_i0 ?_ | refine g_neg ?_ | refine g_eqI ?_ | refine g_neI ?_ | refine g_eqS ?_ | refine g_neS ?_ | refine g_neBB ?_ | refine g_neB ?_ | refine g_lz ?_ | refine g_bmS ?_ | refine g_tyStr ?_ | refine g_tyS ?_ | refine g_dnew ?_ | refine g_lcU ?_ | refine g_yes ?_ | refine g_dg ?_ | refine g_di ?_ | refine g_dni ?_ | refine g_dp ?_ | refine g_ds ?_ | refine g_for ?_ | refine g_rng1 ?_ | refine g_rng2 ?_ | refine g_zipA ?_ | refine g_sl ?_ | refine g_noP ?_ | refine g_part ?_ | refine g_exI ?_ | refine g_isNn ?_ | refine g_isNr ?_ | refine g_isNi ?_ | refine g_notNn ?_ | refine g_notNr ?_ | refine g_notNi ?_
  | refine g_abs ?_ | refine g_max ?_ | refine g_min ?_ | refine g_intI ?_ | refine g_intB ?_ | refine g_tup ?_ | refine g_lst ?_ | refine g_bm0 ?_ | refine g_bm ?_ | refine g_uJs ?_ | refine g_js ?_ | refine g_jn ?_ | refine g_fmt ?_)
local macro_rules | `(tactic| walk_at "go2") => `(tactic| first
  | refine g_var rfl ?_ | ((with_reducible apply g_iS); (· walk_at "side"))
  | ((with_reducible apply g_lenL); (· assumption)) | ((with_reducible apply g_lenT); (· assumption)) | ((with_reducible apply g_lenSq); (· assumption))
  | ((with_reducible apply g_ixL); (· assumption); (· rfl)) | ((with_reducible apply g_ixT); (· assumption); (· rfl))
  | ((with_reducible apply g_tyL); (· assumption)))
local macro_rules | `(tactic| walk_at "go") => `(tactic| repeat (first | walk_at "go1" | walk_at "go2"))
def top (i : Nat) : Stmt := PySem.Challenge.pw_boughkept_k16_readers_as_texts.main.body.getD i (.Pass ⟨0, 0, 0, 0⟩)
abbrev sI_NoText : Stmt := inClass (top 2) 0
theorem scI_NoText : FnScope ["self", "row"] ["self", "row"] (defScope sI_NoText) := ⟨rfl, rfl, rfl, by decide +kernel, rfl, by decide +kernel, by decide +kernel⟩
abbrev sI_NoReader : Stmt := inClass (top 3) 0
theorem scI_NoReader : FnScope ["self", "word", "maker"] ["self", "word", "maker"] (defScope sI_NoReader) := ⟨rfl, rfl, rfl, by decide +kernel, rfl, by decide +kernel, by decide +kernel⟩
abbrev sI_Nought : Stmt := inClass (top 4) 0
theorem scI_Nought : FnScope ["self"] ["self"] (defScope sI_Nought) := ⟨rfl, rfl, rfl, by decide +kernel, rfl, by decide +kernel, by decide +kernel⟩
abbrev s_common_part : Stmt := top 8
theorem sc_common_part : FnScope ["one", "other"] ["one", "other"] (defScope s_common_part) := ⟨rfl, rfl, rfl, by decide +kernel, rfl, by decide +kernel, by decide +kernel⟩
abbrev s_fraction_of : Stmt := top 9
theorem sc_fraction_of : FnScope ["upper", "lower", "part"] ["upper", "lower"] (defScope s_fraction_of) := ⟨rfl, rfl, rfl, by decide +kernel, rfl, by decide +kernel, by decide +kernel⟩
abbrev s_show_fraction : Stmt := top 10
theorem sc_show_fraction : FnScope ["one"] ["one"] (defScope s_show_fraction) := ⟨rfl, rfl, rfl, by decide +kernel, rfl, by decide +kernel, by decide +kernel⟩
abbrev s_is_figures : Stmt := top 11
abbrev N_is_figures : List Str := ["text", "sign"]
theorem sc_is_figures : FnScope ["text", "sign"] ["text"] (defScope s_is_figures) := ⟨rfl, rfl, rfl, by decide +kernel, rfl, by decide +kernel, by decide +kernel⟩
abbrev s_read_fraction : Stmt := top 12
theorem sc_read_fraction : FnScope ["text", "upper", "stroke", "lower", "figures", "found"] ["text"] (defScope s_read_fraction) := ⟨rfl, rfl, rfl, by decide +kernel, rfl, by decide +kernel, by decide +kernel⟩
abbrev s_kinds_by_name : Stmt := top 14
abbrev N_kinds_by_name : List Str := ["wood", "number", "name", "makers"]
theorem sc_kinds_by_name : FnScope ["wood", "number", "name", "makers"] ["wood"] (defScope s_kinds_by_name) := ⟨rfl, rfl, rfl, by decide +kernel, rfl, by decide +kernel, by decide +kernel⟩
abbrev s_makers_of : Stmt := top 15
abbrev N_makers_of : List Str := ["wood", "found", "kind", "makers", "name", "parts"]
theorem sc_makers_of : FnScope ["wood", "found", "kind", "makers", "name", "parts"] ["wood"] (defScope s_makers_of) := ⟨rfl, rfl, rfl, by decide +kernel, rfl, by decide +kernel, by decide +kernel⟩
abbrev s_maker_table : Stmt := top 16
abbrev N_maker_table : List Str := ["wood", "kinds", "found", "number", "kind", "makers", "name", "parts", "part"]
theorem sc_maker_table : FnScope ["wood", "kinds", "found", "number", "kind", "makers", "name", "parts", "part"] ["wood"] (defScope s_maker_table) := ⟨rfl, rfl, rfl, by decide +kernel, rfl, by decide +kernel, by decide +kernel⟩
abbrev s_need_readers : Stmt := top 19
theorem sc_need_readers : FnScope ["good", "word", "maker"] ["good", "word", "maker"] (defScope s_need_readers) := ⟨rfl, rfl, rfl, by decide +kernel, rfl, by decide +kernel, by decide +kernel⟩
abbrev s_is_fraction : Stmt := top 21
theorem sc_is_fraction : FnScope ["number"] ["number"] (defScope s_is_fraction) := ⟨rfl, rfl, rfl, by decide +kernel, rfl, by decide +kernel, by decide +kernel⟩
abbrev s_look_term : Stmt := top 22
theorem sc_look_term : FnScope ["counts", "parts", "term", "maker", "number", "boxes", "part", "box"] ["counts", "parts", "term", "maker"] (defScope s_look_term) := ⟨rfl, rfl, rfl, by decide +kernel, rfl, by decide +kernel, by decide +kernel⟩
abbrev s_look_reader : Stmt := top 23
abbrev N_look_reader : List Str := ["wood", "reader", "counts", "rules", "makers", "table", "maker", "sums", "kind", "parts", "terms", "term", "count"]
theorem sc_look_reader : FnScope ["wood", "reader", "counts", "rules", "makers", "table", "maker", "sums", "kind", "parts", "terms", "term", "count"] ["wood", "reader"] (defScope s_look_reader) := ⟨rfl, rfl, rfl, by decide +kernel, rfl, by decide +kernel, by decide +kernel⟩
abbrev s_term_text : Stmt := top 26
abbrev N_term_text : List Str := ["term", "number", "boxes", "part", "box"]
theorem sc_term_text : FnScope ["term", "number", "boxes", "part", "box"] ["term"] (defScope s_term_text) := ⟨rfl, rfl, rfl, by decide +kernel, rfl, by decide +kernel, by decide +kernel⟩
abbrev s_show_reader : Stmt := top 27
abbrev N_show_reader : List Str := ["wood", "reader", "counts", "rules", "rows", "maker", "sums", "box", "terms", "told", "count", "term"]
theorem sc_show_reader : FnScope ["wood", "reader", "counts", "rules", "rows", "maker", "sums", "box", "terms", "told", "count", "term"] ["wood", "reader"] (defScope s_show_reader) := ⟨rfl, rfl, rfl, by decide +kernel, rfl, by decide +kernel, by decide +kernel⟩
abbrev s_need_readertexts : Stmt := top 28
theorem sc_need_readertexts : FnScope ["good", "row"] ["good", "row"] (defScope s_need_readertexts) := ⟨rfl, rfl, rfl, by decide +kernel, rfl, by decide +kernel, by decide +kernel⟩
abbrev s_number_in : Stmt := top 30
abbrev N_number_in : List Str := ["word", "row", "sign"]
theorem sc_number_in : FnScope ["word", "row", "sign"] ["word", "row"] (defScope s_number_in) := ⟨rfl, rfl, rfl, by decide +kernel, rfl, by decide +kernel, by decide +kernel⟩
abbrev s_read_term : Stmt := top 31
theorem sc_read_term : FnScope ["text", "many", "row", "parts", "number", "boxes", "least", "word", "part", "dot", "box"] ["text", "many", "row"] (defScope s_read_term) := ⟨rfl, rfl, rfl, by decide +kernel, rfl, by decide +kernel, by decide +kernel⟩
abbrev s_read_sum : Stmt := top 32
abbrev N_read_sum : List Str := ["text", "head", "many", "row", "told", "part"]
theorem sc_read_sum : FnScope ["text", "head", "many", "row", "told", "part"] ["text", "head", "many", "row"] (defScope s_read_sum) := ⟨rfl, rfl, rfl, by decide +kernel, rfl, by decide +kernel, by decide +kernel⟩
abbrev s_read_reader : Stmt := top 33
abbrev N_read_reader : List Str := ["wood", "text", "rows", "parts", "counts", "table", "rules", "row", "maker", "sums", "box", "reader", "word"]
theorem sc_read_reader : FnScope ["wood", "text", "rows", "parts", "counts", "table", "rules", "row", "maker", "sums", "box", "reader", "word"] ["wood", "text"] (defScope s_read_reader) := ⟨rfl, rfl, rfl, by decide +kernel, rfl, by decide +kernel, by decide +kernel⟩
abbrev s_law_box : Stmt := top 35
theorem sc_law_box : FnScope ["_law_script", "_law_k", "_law_cell", "_law_seed"] ["_law_script", "_law_k"] (defScope s_law_box) := ⟨rfl, rfl, rfl, by decide +kernel, rfl, by decide +kernel, by decide +kernel⟩
abbrev s_law_take : Stmt := top 36
theorem sc_law_take : FnScope ["_law_box_here", "_law_many", "_law_digit", "_law_one"] ["_law_box_here", "_law_many"] (defScope s_law_take) := ⟨rfl, rfl, rfl, by decide +kernel, rfl, by decide +kernel, by decide +kernel⟩
abbrev s_law_names : Stmt := top 37
abbrev N_law_names : List Str := ["_law_box_here", "_law_many", "_law_letters", "_law_stem", "_law_found", "_law_k", "_law_form", "_law_at", "_law_name", "_law_j"]
theorem sc_law_names : FnScope ["_law_box_here", "_law_many", "_law_letters", "_law_stem", "_law_found", "_law_k", "_law_form", "_law_at", "_law_name", "_law_j"] ["_law_box_here", "_law_many"] (defScope s_law_names) := ⟨rfl, rfl, rfl, by decide +kernel, rfl, by decide +kernel, by decide +kernel⟩
abbrev s_law_wood : Stmt := top 38
abbrev N_law_wood : List Str := ["_law_box_here", "_law_most", "_law_plain", "_law_many", "_law_kinds", "_law_some", "_law_names_here", "_law_rows", "_law_k", "_law_name", "_law_kind", "_law_wide", "_law_parts", "_law_j", "_law_row"]
theorem sc_law_wood : FnScope ["_law_box_here", "_law_most", "_law_plain", "_law_many", "_law_kinds", "_law_some", "_law_names_here", "_law_rows", "_law_k", "_law_name", "_law_kind", "_law_wide", "_law_parts", "_law_j", "_law_row"] ["_law_box_here", "_law_most"] (defScope s_law_wood) := ⟨rfl, rfl, rfl, by decide +kernel, rfl, by decide +kernel, by decide +kernel⟩
abbrev s_law_makers : Stmt := top 39
abbrev N_law_makers : List Str := ["_law_wood_here", "_law_kinds", "_law_found", "_law_kind", "_law_name", "_law_makers_here", "_law_maker", "_law_parts", "_law_part"]
theorem sc_law_makers : FnScope ["_law_wood_here", "_law_kinds", "_law_found", "_law_kind", "_law_name", "_law_makers_here", "_law_maker", "_law_parts", "_law_part"] ["_law_wood_here"] (defScope s_law_makers) := ⟨rfl, rfl, rfl, by decide +kernel, rfl, by decide +kernel, by decide +kernel⟩
abbrev s_law_shared : Stmt := top 40
theorem sc_law_shared : FnScope ["_law_one", "_law_other"] ["_law_one", "_law_other"] (defScope s_law_shared) := ⟨rfl, rfl, rfl, by decide +kernel, rfl, by decide +kernel, by decide +kernel⟩
abbrev s_law_fraction : Stmt := top 41
theorem sc_law_fraction : FnScope ["_law_box_here", "_law_form", "_law_upper", "_law_lower", "_law_part"] ["_law_box_here"] (defScope s_law_fraction) := ⟨rfl, rfl, rfl, by decide +kernel, rfl, by decide +kernel, by decide +kernel⟩
abbrev s_law_reader : Stmt := top 42
abbrev N_law_reader : List Str := ["_law_box_here", "_law_wood_here", "_law_counts", "_law_rules", "_law_maker", "_law_kind", "_law_parts", "_law_sums", "_law_k", "_law_terms", "_law_j", "_law_picks", "_law_term", "_law_part", "_law_pick"]
theorem sc_law_reader : FnScope ["_law_box_here", "_law_wood_here", "_law_counts", "_law_rules", "_law_maker", "_law_kind", "_law_parts", "_law_sums", "_law_k", "_law_terms", "_law_j", "_law_picks", "_law_term", "_law_part", "_law_pick"] ["_law_box_here", "_law_wood_here"] (defScope s_law_reader) := ⟨rfl, rfl, rfl, by decide +kernel, rfl, by decide +kernel, by decide +kernel⟩
abbrev s_law_text_of : Stmt := top 43
theorem sc_law_text_of : FnScope ["_law_number"] ["_law_number"] (defScope s_law_text_of) := ⟨rfl, rfl, rfl, by decide +kernel, rfl, by decide +kernel, by decide +kernel⟩
abbrev s_law_reader_rows : Stmt := top 44
abbrev N_law_reader_rows : List Str := ["_law_wood_here", "_law_reader_here", "_law_rows", "_law_maker", "_law_kind", "_law_parts", "_law_sums", "_law_at", "_law_terms", "_law_some", "_law_number", "_law_boxes", "_law_words", "_law_part", "_law_one", "_law_told", "_law_count"]
theorem sc_law_reader_rows : FnScope ["_law_wood_here", "_law_reader_here", "_law_rows", "_law_maker", "_law_kind", "_law_parts", "_law_sums", "_law_at", "_law_terms", "_law_some", "_law_number", "_law_boxes", "_law_words", "_law_part", "_law_one", "_law_told", "_law_count"] ["_law_wood_here", "_law_reader_here"] (defScope s_law_reader_rows) := ⟨rfl, rfl, rfl, by decide +kernel, rfl, by decide +kernel, by decide +kernel⟩
abbrev s_law_alike : Stmt := top 45
theorem sc_law_alike : FnScope ["_law_found", "_law_due", "_law_left", "_law_one", "_law_other"] ["_law_found", "_law_due"] (defScope s_law_alike) := ⟨rfl, rfl, rfl, by decide +kernel, rfl, by decide +kernel, by decide +kernel⟩
abbrev s_law_right : Stmt := top 46
theorem sc_law_right : FnScope ["_law_wood_here", "_law_reader_here", "_law_text", "_law_found"] ["_law_wood_here", "_law_reader_here"] (defScope s_law_right) := ⟨rfl, rfl, rfl, by decide +kernel, rfl, by decide +kernel, by decide +kernel⟩
abbrev s_law : Stmt := top 47
abbrev N_law : List Str := ["_law_script", "_law_some", "_law_k", "_law_box_here", "_law_wood_here", "_law_reader_here"]
theorem sc_law : FnScope ["_law_script", "_law_some", "_law_k", "_law_box_here", "_law_wood_here", "_law_reader_here"] ["_law_script"] (defScope s_law) := ⟨rfl, rfl, rfl, by decide +kernel, rfl, by decide +kernel, by decide +kernel⟩
structure Txt (K : PySem.W.Frag) (mg : Str → Option Value) where
  a_BoughError : Addr
  m_BoughError : mg "BoughError" = some (.ref a_BoughError)
  x_BoughError : OexB K a_BoughError "ValueError.__new__" [.type "ValueError", .type "Exception", .type "BaseException", .type "object"]
  e_BoughError : PySem.W.exmOne K (.ref a_BoughError) (.ref a_BoughError) = some true
  c_BoughError : ExcC K a_BoughError
  i0_BoughError : PySem.W.isClsIn K a_BoughError = true
  t0_BoughError : PySem.W.typeIn K (.ref a_BoughError) = some (.type "type")
  s0_BoughError : PySem.W.subIn K (.ref a_BoughError) (.ref a_BoughError) = some true
  h_BoughError : XiC K a_BoughError "ValueError.__init__"
  a_NoText : Addr
  m_NoText : mg "NoText" = some (.ref a_NoText)
  x_NoText : OexB K a_NoText "ValueError.__new__" [.type "ValueError", .type "Exception", .type "BaseException", .type "object"]
  e_NoText : PySem.W.exmOne K (.ref a_NoText) (.ref a_NoText) = some true
  c_NoText : ExcC K a_NoText
  i0_NoText : PySem.W.isClsIn K a_NoText = true
  t0_NoText : PySem.W.typeIn K (.ref a_NoText) = some (.type "type")
  s0_NoText : PySem.W.subIn K (.ref a_NoText) (.ref a_NoText) = some true
  o_NoText : OexC K a_NoText
  aI_NoText : Addr
  dI_NoText : FuncData
  FI_NoText : Fun K "__init__" "NoText.__init__" sI_NoText aI_NoText dI_NoText
  bI_NoText : Binds K dI_NoText ["self", "row"] []
  i_NoText : PySem.W.findIn K (.ref a_NoText) "__init__" = some (some (.ref aI_NoText))
  t_NoText : PySem.W.typeIn K (.ref aI_NoText) = some (.type "function")
  n_NoText_row : PySem.W.findIn K (.ref a_NoText) "row" = some none
  a_NoReader : Addr
  m_NoReader : mg "NoReader" = some (.ref a_NoReader)
  x_NoReader : OexB K a_NoReader "ValueError.__new__" [.type "ValueError", .type "Exception", .type "BaseException", .type "object"]
  e_NoReader : PySem.W.exmOne K (.ref a_NoReader) (.ref a_NoReader) = some true
  c_NoReader : ExcC K a_NoReader
  i0_NoReader : PySem.W.isClsIn K a_NoReader = true
  t0_NoReader : PySem.W.typeIn K (.ref a_NoReader) = some (.type "type")
  s0_NoReader : PySem.W.subIn K (.ref a_NoReader) (.ref a_NoReader) = some true
  o_NoReader : OexC K a_NoReader
  aI_NoReader : Addr
  dI_NoReader : FuncData
  FI_NoReader : Fun K "__init__" "NoReader.__init__" sI_NoReader aI_NoReader dI_NoReader
  bI_NoReader : Binds K dI_NoReader ["self", "word", "maker"] []
  i_NoReader : PySem.W.findIn K (.ref a_NoReader) "__init__" = some (some (.ref aI_NoReader))
  t_NoReader : PySem.W.typeIn K (.ref aI_NoReader) = some (.type "function")
  n_NoReader_word : PySem.W.findIn K (.ref a_NoReader) "word" = some none
  n_NoReader_maker : PySem.W.findIn K (.ref a_NoReader) "maker" = some none
  a_Nought : Addr
  m_Nought : mg "Nought" = some (.ref a_Nought)
  x_Nought : OexB K a_Nought "ZeroDivisionError.__new__" [.type "ZeroDivisionError", .type "ArithmeticError", .type "Exception", .type "BaseException", .type "object"]
  e_Nought : PySem.W.exmOne K (.ref a_Nought) (.ref a_Nought) = some true
  c_Nought : ExcC K a_Nought
  i0_Nought : PySem.W.isClsIn K a_Nought = true
  t0_Nought : PySem.W.typeIn K (.ref a_Nought) = some (.type "type")
  s0_Nought : PySem.W.subIn K (.ref a_Nought) (.ref a_Nought) = some true
  aI_Nought : Addr
  dI_Nought : FuncData
  FI_Nought : Fun K "__init__" "Nought.__init__" sI_Nought aI_Nought dI_Nought
  bI_Nought : Binds K dI_Nought ["self"] []
  i_Nought : PySem.W.findIn K (.ref a_Nought) "__init__" = some (some (.ref aI_Nought))
  t_Nought : PySem.W.typeIn K (.ref aI_Nought) = some (.type "function")
  v_ValueError : PySem.W.findCls K (.type "ValueError") (.type "type") "__init__" = some (.val (.builtin "ValueError.__init__"))
  v_ZeroDivisionError : PySem.W.findCls K (.type "ZeroDivisionError") (.type "type") "__init__" = some (.val (.builtin "ZeroDivisionError.__init__"))
  m_FIGURES_fractions : ∃ u, mg "FIGURES_fractions" = some u ∧ RelV (.str "0123456789") u
  m_MOST_FIGURES : ∃ u, mg "MOST_FIGURES" = some u ∧ RelV (.int 30) u
  m_MOST_BOXES : ∃ u, mg "MOST_BOXES" = some u ∧ RelV (.int 4) u
  m_FIGURES_readertexts : ∃ u, mg "FIGURES_readertexts" = some u ∧ RelV (.str "0123456789") u
  a_common_part : Addr
  d_common_part : FuncData
  m_common_part : mg "common_part" = some (.ref a_common_part)
  b_common_part : Binds K d_common_part ["one", "other"] []
  F_common_part : Fun K "common_part" "common_part" s_common_part a_common_part d_common_part
  a_fraction_of : Addr
  d_fraction_of : FuncData
  m_fraction_of : mg "fraction_of" = some (.ref a_fraction_of)
  b_fraction_of : Binds K d_fraction_of ["upper", "lower"] []
  F_fraction_of : FunD K "fraction_of" "fraction_of" (defArgs s_fraction_of) (defBody s_fraction_of) (defScope s_fraction_of) [.int 1] [] a_fraction_of d_fraction_of
  bv_fraction_of1 : ∃ ds, Vals [.int 1] ds ∧ Binds K d_fraction_of ["upper", "lower"] ds
  a_show_fraction : Addr
  d_show_fraction : FuncData
  m_show_fraction : mg "show_fraction" = some (.ref a_show_fraction)
  b_show_fraction : Binds K d_show_fraction ["one"] []
  F_show_fraction : Fun K "show_fraction" "show_fraction" s_show_fraction a_show_fraction d_show_fraction
  a_is_figures : Addr
  d_is_figures : FuncData
  m_is_figures : mg "is_figures" = some (.ref a_is_figures)
  b_is_figures : Binds K d_is_figures ["text"] []
  F_is_figures : Fun K "is_figures" "is_figures" s_is_figures a_is_figures d_is_figures
  a_read_fraction : Addr
  d_read_fraction : FuncData
  m_read_fraction : mg "read_fraction" = some (.ref a_read_fraction)
  b_read_fraction : Binds K d_read_fraction ["text"] []
  F_read_fraction : Fun K "read_fraction" "read_fraction" s_read_fraction a_read_fraction d_read_fraction
  a_kinds_by_name : Addr
  d_kinds_by_name : FuncData
  m_kinds_by_name : mg "kinds_by_name" = some (.ref a_kinds_by_name)
  b_kinds_by_name : Binds K d_kinds_by_name ["wood"] []
  F_kinds_by_name : Fun K "kinds_by_name" "kinds_by_name" s_kinds_by_name a_kinds_by_name d_kinds_by_name
  a_makers_of : Addr
  d_makers_of : FuncData
  m_makers_of : mg "makers_of" = some (.ref a_makers_of)
  b_makers_of : Binds K d_makers_of ["wood"] []
  F_makers_of : Fun K "makers_of" "makers_of" s_makers_of a_makers_of d_makers_of
  a_maker_table : Addr
  d_maker_table : FuncData
  m_maker_table : mg "maker_table" = some (.ref a_maker_table)
  b_maker_table : Binds K d_maker_table ["wood"] []
  F_maker_table : Fun K "maker_table" "maker_table" s_maker_table a_maker_table d_maker_table
  a_need_readers : Addr
  d_need_readers : FuncData
  m_need_readers : mg "need_readers" = some (.ref a_need_readers)
  b_need_readers : Binds K d_need_readers ["good", "word", "maker"] []
  F_need_readers : FunD K "need" "need" (defArgs s_need_readers) (defBody s_need_readers) (defScope s_need_readers) [.str ""] [] a_need_readers d_need_readers
  bv_need_readers1 : ∃ ds, Vals [.str ""] ds ∧ Binds K d_need_readers ["good", "word", "maker"] ds
  a_is_fraction : Addr
  d_is_fraction : FuncData
  m_is_fraction : mg "is_fraction" = some (.ref a_is_fraction)
  b_is_fraction : Binds K d_is_fraction ["number"] []
  F_is_fraction : Fun K "is_fraction" "is_fraction" s_is_fraction a_is_fraction d_is_fraction
  a_look_term : Addr
  d_look_term : FuncData
  m_look_term : mg "look_term" = some (.ref a_look_term)
  b_look_term : Binds K d_look_term ["counts", "parts", "term", "maker"] []
  F_look_term : Fun K "look_term" "look_term" s_look_term a_look_term d_look_term
  a_look_reader : Addr
  d_look_reader : FuncData
  m_look_reader : mg "look_reader" = some (.ref a_look_reader)
  b_look_reader : Binds K d_look_reader ["wood", "reader"] []
  F_look_reader : Fun K "look_reader" "look_reader" s_look_reader a_look_reader d_look_reader
  a_term_text : Addr
  d_term_text : FuncData
  m_term_text : mg "term_text" = some (.ref a_term_text)
  b_term_text : Binds K d_term_text ["term"] []
  F_term_text : Fun K "term_text" "term_text" s_term_text a_term_text d_term_text
  a_show_reader : Addr
  d_show_reader : FuncData
  m_show_reader : mg "show_reader" = some (.ref a_show_reader)
  b_show_reader : Binds K d_show_reader ["wood", "reader"] []
  F_show_reader : Fun K "show_reader" "show_reader" s_show_reader a_show_reader d_show_reader
  a_need_readertexts : Addr
  d_need_readertexts : FuncData
  m_need_readertexts : mg "need_readertexts" = some (.ref a_need_readertexts)
  b_need_readertexts : Binds K d_need_readertexts ["good", "row"] []
  F_need_readertexts : Fun K "need" "need" s_need_readertexts a_need_readertexts d_need_readertexts
  a_number_in : Addr
  d_number_in : FuncData
  m_number_in : mg "number_in" = some (.ref a_number_in)
  b_number_in : Binds K d_number_in ["word", "row"] []
  F_number_in : Fun K "number_in" "number_in" s_number_in a_number_in d_number_in
  a_read_term : Addr
  d_read_term : FuncData
  m_read_term : mg "read_term" = some (.ref a_read_term)
  b_read_term : Binds K d_read_term ["text", "many", "row"] []
  F_read_term : Fun K "read_term" "read_term" s_read_term a_read_term d_read_term
  a_read_sum : Addr
  d_read_sum : FuncData
  m_read_sum : mg "read_sum" = some (.ref a_read_sum)
  b_read_sum : Binds K d_read_sum ["text", "head", "many", "row"] []
  F_read_sum : Fun K "read_sum" "read_sum" s_read_sum a_read_sum d_read_sum
  a_read_reader : Addr
  d_read_reader : FuncData
  m_read_reader : mg "read_reader" = some (.ref a_read_reader)
  b_read_reader : Binds K d_read_reader ["wood", "text"] []
  F_read_reader : Fun K "read_reader" "read_reader" s_read_reader a_read_reader d_read_reader
  a_law_box : Addr
  d_law_box : FuncData
  m_law_box : mg "_law_box" = some (.ref a_law_box)
  b_law_box : Binds K d_law_box ["_law_script", "_law_k"] []
  F_law_box : Fun K "_law_box" "_law_box" s_law_box a_law_box d_law_box
  a_law_take : Addr
  d_law_take : FuncData
  m_law_take : mg "_law_take" = some (.ref a_law_take)
  b_law_take : Binds K d_law_take ["_law_box_here", "_law_many"] []
  F_law_take : Fun K "_law_take" "_law_take" s_law_take a_law_take d_law_take
  a_law_names : Addr
  d_law_names : FuncData
  m_law_names : mg "_law_names" = some (.ref a_law_names)
  b_law_names : Binds K d_law_names ["_law_box_here", "_law_many"] []
  F_law_names : Fun K "_law_names" "_law_names" s_law_names a_law_names d_law_names
  a_law_wood : Addr
  d_law_wood : FuncData
  m_law_wood : mg "_law_wood" = some (.ref a_law_wood)
  b_law_wood : Binds K d_law_wood ["_law_box_here", "_law_most"] []
  F_law_wood : Fun K "_law_wood" "_law_wood" s_law_wood a_law_wood d_law_wood
  a_law_makers : Addr
  d_law_makers : FuncData
  m_law_makers : mg "_law_makers" = some (.ref a_law_makers)
  b_law_makers : Binds K d_law_makers ["_law_wood_here"] []
  F_law_makers : Fun K "_law_makers" "_law_makers" s_law_makers a_law_makers d_law_makers
  a_law_shared : Addr
  d_law_shared : FuncData
  m_law_shared : mg "_law_shared" = some (.ref a_law_shared)
  b_law_shared : Binds K d_law_shared ["_law_one", "_law_other"] []
  F_law_shared : Fun K "_law_shared" "_law_shared" s_law_shared a_law_shared d_law_shared
  a_law_fraction : Addr
  d_law_fraction : FuncData
  m_law_fraction : mg "_law_fraction" = some (.ref a_law_fraction)
  b_law_fraction : Binds K d_law_fraction ["_law_box_here"] []
  F_law_fraction : Fun K "_law_fraction" "_law_fraction" s_law_fraction a_law_fraction d_law_fraction
  a_law_reader : Addr
  d_law_reader : FuncData
  m_law_reader : mg "_law_reader" = some (.ref a_law_reader)
  b_law_reader : Binds K d_law_reader ["_law_box_here", "_law_wood_here"] []
  F_law_reader : Fun K "_law_reader" "_law_reader" s_law_reader a_law_reader d_law_reader
  a_law_text_of : Addr
  d_law_text_of : FuncData
  m_law_text_of : mg "_law_text_of" = some (.ref a_law_text_of)
  b_law_text_of : Binds K d_law_text_of ["_law_number"] []
  F_law_text_of : Fun K "_law_text_of" "_law_text_of" s_law_text_of a_law_text_of d_law_text_of
  a_law_reader_rows : Addr
  d_law_reader_rows : FuncData
  m_law_reader_rows : mg "_law_reader_rows" = some (.ref a_law_reader_rows)
  b_law_reader_rows : Binds K d_law_reader_rows ["_law_wood_here", "_law_reader_here"] []
  F_law_reader_rows : Fun K "_law_reader_rows" "_law_reader_rows" s_law_reader_rows a_law_reader_rows d_law_reader_rows
  a_law_alike : Addr
  d_law_alike : FuncData
  m_law_alike : mg "_law_alike" = some (.ref a_law_alike)
  b_law_alike : Binds K d_law_alike ["_law_found", "_law_due"] []
  F_law_alike : Fun K "_law_alike" "_law_alike" s_law_alike a_law_alike d_law_alike
  a_law_right : Addr
  d_law_right : FuncData
  m_law_right : mg "_law_right" = some (.ref a_law_right)
  b_law_right : Binds K d_law_right ["_law_wood_here", "_law_reader_here"] []
  F_law_right : Fun K "_law_right" "_law_right" s_law_right a_law_right d_law_right
  a_law : Addr
  d_law : FuncData
  m_law : mg "law" = some (.ref a_law)
  b_law : Binds K d_law ["_law_script"] []
  F_law : Fun K "law" "law" s_law a_law d_law
  z_ValueError : mg "ValueError" = none
  z_ZeroDivisionError : mg "ZeroDivisionError" = none
  z_abs : mg "abs" = none
  z_all : mg "all" = none
  z_bool : mg "bool" = none
  z_dict : mg "dict" = none
  z_enumerate : mg "enumerate" = none
  z_int : mg "int" = none
  z_isinstance : mg "isinstance" = none
  z_len : mg "len" = none
  z_list : mg "list" = none
  z_max : mg "max" = none
  z_min : mg "min" = none
  z_range : mg "range" = none
  z_str : mg "str" = none
  z_tuple : mg "tuple" = none
  z_zip : mg "zip" = none
section
variable {P : Program} {w : World} {K : PySem.W.Frag} {mg : Str → Option Value} {base : Heap}
theorem ok_init_NoText (T : Txt K mg) : FnOk P w K mg base (L2.CX P w) 1 T.aI_NoText T.dI_NoText ["self", "row"] (spExc1 K ([.type "ValueError", .type "Exception", .type "BaseException", .type "object"]) "row") := by
  refine T.FI_NoText.okX scI_NoText (fun vs H Q E h => ?_) (fun cdv A outer s H vs Q E hr h => ?_)
  · obtain ⟨_, _, _, rfl, _⟩ := h
    rfl
  obtain ⟨a, C, y, rfl, ho, ho2, n1, ha, q⟩ := h
  refine ⟨_, pss_cons (ps_expr (pe_xinitO PySem.F.excBase_ValueError T.h_BoughError (by decide +kernel) rfl T.m_BoughError (pa_cons (uv 0) (pa_cons pe_str pa_nil)))) (pss_one (ps_ost (uv 0) (uv 1))), ?_⟩
  refine g_seq (g_drop ?_)
  show tCons (uV 0) _ _ _ _
  walk_at "go"
  refine ⟨C, by decide, ho, ha, ?_⟩
  walk_at "go"
  refine ⟨a, C, rfl, ho2, n1, .inl ⟨ha, fun dx hd ne => ?_⟩⟩
  exact q dx hd ne
theorem ok_init_NoReader (T : Txt K mg) : FnOk P w K mg base (L2.CX P w) 1 T.aI_NoReader T.dI_NoReader ["self", "word", "maker"] (spExc2 K ([.type "ValueError", .type "Exception", .type "BaseException", .type "object"]) "word" "maker") := by
  refine T.FI_NoReader.okX scI_NoReader (fun vs H Q E h => ?_) (fun cdv A outer s H vs Q E hr h => ?_)
  · obtain ⟨_, _, _, _, rfl, _⟩ := h
    rfl
  obtain ⟨a, C, y, z, rfl, ho, ho2, n1, n2, ha, q⟩ := h
  refine ⟨_, pss_cons (ps_expr (pe_xinitO PySem.F.excBase_ValueError T.h_BoughError (by decide +kernel) rfl T.m_BoughError (pa_cons (uv 0) (pa_cons pe_str pa_nil)))) (pss_cons (ps_ost (uv 0) (uv 1)) (pss_one (ps_ost (uv 0) (uv 2)))), ?_⟩
  refine g_seq (g_drop ?_)
  show tCons (uV 0) _ _ _ _
  walk_at "go"
  refine ⟨C, by decide, ho, ha, ?_⟩
  walk_at "go"
  refine ⟨a, C, rfl, ho2, n1, .inl ⟨ha, fun dx hd ne => ?_⟩⟩
  walk_at "go"
  refine ⟨a, C, rfl, ho2, n2, .inr ⟨dx, _, upd_same, ?_, by simp, q dx hd ne⟩⟩
  rw [upd_ne ne, upd_same]
def spInit0 (K : PySem.W.Frag) (newId : String) (bmB : List Value) : Sp := fun vs H Q _ => ∃ (a C : Addr), vs = [.ref a] ∧ OexB K C newId bmB ∧ H a = some (exo a C none) ∧ Q .non H
theorem ok_init_Nought (T : Txt K mg) (z : mg "ZeroDivisionError" = none) : FnOk P w K mg base (L2.CX P w) 1 T.aI_Nought T.dI_Nought ["self"] (spInit0 K "ZeroDivisionError.__new__" [.type "ZeroDivisionError", .type "ArithmeticError", .type "Exception", .type "BaseException", .type "object"]) := by
  refine T.FI_Nought.okX scI_Nought (fun vs H Q E h => ?_) (fun cdv A outer s H vs Q E hr h => ?_)
  · obtain ⟨a, C, rfl, _⟩ := h
    rfl
  obtain ⟨a, C, rfl, ho, ha, q⟩ := h
  refine ⟨_, pss_one (ps_expr (pe_xinitB PySem.F.excBase_ZeroDivisionError (by kernel_rfl) (by decide +kernel) rfl z (by decide +kernel) T.v_ZeroDivisionError (by decide +kernel) (pa_cons (uv 0) (pa_cons pe_str pa_nil)))), ?_⟩
  refine g_drop ?_
  show tCons (uV 0) _ _ _ _
  walk_at "go"
  exact ⟨C, by decide, ho, ha, q⟩
theorem vi_common_part_0 : Vis (defScope s_common_part) "one" := by first | exact Or.inl (by decide +kernel) | exact Or.inr (Or.inl (by decide +kernel)) | exact Or.inr (Or.inr (by decide +kernel))
theorem vi_common_part_1 : Vis (defScope s_common_part) "other" := by first | exact Or.inl (by decide +kernel) | exact Or.inr (Or.inl (by decide +kernel)) | exact Or.inr (Or.inr (by decide +kernel))
theorem gcd_fmod (x y : Int) : Int.gcd y (x.fmod y) = Int.gcd x y := by
  have e : x.fmod y = x - x.fdiv y * y := by
    have := Int.fmod_add_mul_fdiv x y
    rw [Int.mul_comm] at this
    omega
  rw [e, Int.gcd_comm x y, Int.gcd_sub_mul_right_right]
theorem fmod_less {x y : Int} (h : y ≠ 0) : (x.fmod y).natAbs < y.natAbs := by
  by_cases c : 0 < y
  · have a1 := Int.fmod_nonneg_of_pos x c
    have a2 := Int.fmod_lt_of_pos x c
    omega
  · have a1 := Int.fmod_nonneg_of_pos (-x) (b := -y) (by omega)
    have a2 := Int.fmod_lt_of_pos (-x) (b := -y) (by omega)
    rw [Int.neg_fmod_neg] at a1 a2
    omega
def spGcd : Sp := fun vs H Q _ => ∃ a b : Int, vs = [.int a, .int b] ∧ Q (.int (Int.gcd a b : Nat)) H
theorem ok_common_part (T : Txt K mg) : FnOk P w K mg base (L2.CX P w) 1 T.a_common_part T.d_common_part ["one", "other"] spGcd := by
  refine T.F_common_part.okX sc_common_part (fun vs H Q E h => ?_) (fun cdv A outer s H vs Q E hr h => ?_)
  · obtain ⟨a, b, rfl, _⟩ := h
    rfl
  obtain ⟨a, b, rfl, q⟩ := h
  refine ⟨_, (pss_cons (ps_while (passes_of rfl) (pt_cmpR op_ne (uv 1 (hv := vi_common_part_1)) pe_int (nomark _)) (pss_one (ps_par (i := 0) (j := 1) rfl sc_common_part.nd rfl rfl (by decide) rfl rfl (pa_cons (uv 1 (hv := vi_common_part_1)) (pa_cons (pe_op uo_mod (uv 0 (hv := vi_common_part_0)) (uv 1 (hv := vi_common_part_1))) pa_nil)) rfl)))
      (pss_one (ps_ret (pe_callB uk_abs rfl T.z_abs boot_abs (pa_cons (uv 0 (hv := vi_common_part_0)) pa_nil))))), ?_⟩
  refine g_seq (g_while (fun m σ H1 => ∃ x y : Int, σ = [some (.int x), some (.int y)] ∧ H1 = H ∧ Int.gcd x y = Int.gcd a b ∧ m = y.natAbs) _ ⟨a, b, rfl, rfl, rfl, rfl⟩ ?_)
  rintro m σ H1 ⟨x, y, rfl, rfl, hg, rfl⟩
  walk_at "go"
  refine i_neI (fun c => g_wn ?_) fun c => ?_
  · walk_at "go"
    exact ⟨_, fmod_less c, y, x.fmod y, rfl, rfl, (gcd_fmod x y).trans hg, rfl⟩
  · walk_at "go"
    subst c
    rw [Int.gcd_zero_right] at hg
    rw [hg]
    exact q
theorem vi_show_fraction_0 : Vis (defScope s_show_fraction) "one" := by first | exact Or.inl (by decide +kernel) | exact Or.inr (Or.inl (by decide +kernel)) | exact Or.inr (Or.inr (by decide +kernel))
theorem ok_show_fraction (T : Txt K mg) : FnOk P w K mg base (L2.CX P w) 1 T.a_show_fraction T.d_show_fraction ["one"] spShowFx := by
  refine T.F_show_fraction.okX sc_show_fraction (fun vs H Q E h => ?_) (fun cdv A outer s H vs Q E hr h => ?_)
  · obtain ⟨_, _, rfl, _⟩ := h
    rfl
  obtain ⟨p, f, rfl, hp, b1, b2, q⟩ := h
  refine ⟨_, (pss_cons (ps_if (pt_cmpR op_eq (pe_ix ux_seq (uv 0 (hv := vi_show_fraction_0)) pe_int (fun _ _ => rfl)) pe_int (nomark _)) (pss_one (ps_ret (pe_callTy uk_str rfl T.z_str boot_str (pa_cons (pe_ix ux_seq (uv 0 (hv := vi_show_fraction_0)) pe_int (fun _ _ => rfl)) pa_nil)))) pss_nil)
      (pss_one (ps_ret (pe_joinU (PJ.cons (pe_fmtU (pe_ix ux_seq (uv 0 (hv := vi_show_fraction_0)) pe_int (fun _ _ => rfl))) (PJ.cons pe_str (PJ.cons (pe_fmtU (pe_ix ux_seq (uv 0 (hv := vi_show_fraction_0)) pe_int (fun _ _ => rfl))) PJ.nil))))))), ?_⟩
  walk_at "go"
  refine i_eqI (fun c => ?_) fun c => ?_
  · walk_at "go"
    refine g_str (log_of b1 (by decide) (by decide)) ?_
    have e : showFx f = numT f.1 := if_pos c
    rw [← e]
    exact q
  · have e : showFx f = numT f.1 ++ "/" ++ numT f.2 := if_neg c
    rw [e] at q
    walk_at "go"
    have l1 := numT_bits b1
    have l2 := numT_bits b2
    refine g_fmtI (log_of b1 (by decide) (by decide)) ?_
    refine g_jv (by rw [empty_len]; omega) ?_
    rw [empty_app]
    walk_at "go"
    refine g_jv (by show _ + 1 ≤ _; omega) ?_
    walk_at "go"
    refine g_fmtI (log_of b2 (by decide) (by decide)) ?_
    refine g_jv (by rw [app_len]; show _ + 1 + _ ≤ _; omega) ?_
    walk_at "go"
    exact q
theorem vi_is_figures_0 : Vis (defScope s_is_figures) "text" := by first | exact Or.inl (by decide +kernel) | exact Or.inr (Or.inl (by decide +kernel)) | exact Or.inr (Or.inr (by decide +kernel))
theorem ok_is_figures (T : Txt K mg) : FnOk P w K mg base (L2.CX P w) 1 T.a_is_figures T.d_is_figures ["text"] spIsFigs := by
  refine T.F_is_figures.okX sc_is_figures (fun vs H Q E h => ?_) (fun cdv A outer s H vs Q E hr h => ?_)
  · obtain ⟨_, rfl, _⟩ := h
    rfl
  obtain ⟨z, rfl, hz, q⟩ := h
  refine ⟨_, (pss_cons (ps_if (PW.pt (pw_or (pt_not (pt_chain uo_lt uo_le pe_int (pe_callB uk_len rfl T.z_len boot_len (pa_cons (uv 0 (hv := vi_is_figures_0)) pa_nil)) (pe_con rfl T.m_MOST_FIGURES))) (pw_or1 (pt_not (ut (pe_callB (cr_all rfl) rfl T.z_all boot_all (pa_cons (pe_lc (own := [("sign", 1)]) (g := gName 1) rfl sc_is_figures.nd (ui_seq (uv 0 (hv := vi_is_figures_0))) (blkOk_by (own := [("sign", 1)]) (N := N_is_figures) (sc := defScope s_is_figures) (by decide +kernel)) (fun _ _ _ _ _ => (pg_name (i := 1) sc_is_figures.nd rfl (by first | exact Or.inl rfl | exact Or.inr rfl))) (fun _ _ _ _ _ => pts_nil) (fun _ _ _ _ _ => (pe_cmpR (show OpR _ (compareOp .In) (uIn K false) from uo_in) (uv 1) (pe_con rfl T.m_FIGURES_fractions) rfl))) pa_nil))))))) (pss_one (ps_ret pe_bl)) pss_nil)
      (pss_one (ps_ret (pe_or (pe_cmpR op_eq (uv 0 (hv := vi_is_figures_0)) pe_str (nomark _)) (pe_one (pe_cmpR op_ne (pe_ix ux_seq (uv 0 (hv := vi_is_figures_0)) pe_int (fun _ _ => rfl)) pe_str (nomark _))))))), ?_⟩
  have hz2 : z.length ≤ 1000000 := Nat.le_trans hz (by decide)
  have fin : ∀ b, b = isFigs z → ∀ H', Ex H H' → Q (.bl b) H' := fun b e H' x => e ▸ q H' x
  walk_at "go"
  refine g_lenStr hz2 ?_
  walk_at "go"
  have no1 : ¬ (0 < z.length ∧ z.length ≤ 30) → isFigs z = false := fun c => by unfold isFigs; rw [decide_eq_false c, Bool.false_and]
  have yes1 : (0 < z.length ∧ z.length ≤ 30) → isFigs z = (z.cps.toList.all (fun c => decide (c ∈ figS.cps.toList)) && (decide (z = "0") || !decide (z.cps.toList.headD 0 = 48))) := fun c => by unfold isFigs; rw [decide_eq_true c, Bool.true_and]
  refine i_d (fun c1 => ?_) fun c1 => ?_
  rotate_left
  · walk_at "go"
    exact fin _ (no1 (by omega)).symm _ (Ex.refl _)
  walk_at "go"
  refine i_n (fun c2 => ?_) fun c2 => ?_
  · walk_at "go"
    exact fin _ (no1 (by omega)).symm _ (Ex.refl _)
  have c0 : 0 < z.length ∧ z.length ≤ 30 := ⟨by omega, by omega⟩
  walk_at "go"
  refine g_seqSs ?_
  walk_at "go"
  refine ⟨_, rfl, fun D hD => ?_⟩
  refine lc_mapE walk_str (fun i _ v => ∃ c, z.cps.toList[i]? = some c ∧ v = .bl (decide (c ∈ figS.cps.toList))) (by show z.length ≤ _; omega) hD (fun _ _ _ _ _ r => r) (fun _ _ => trivial) ?_ ?_
  · rintro i x H2 H3 P N hi e ⟨rfl, c, hc, rfl⟩ k
    walk_at "go"
    refine ⟨rfl, ?_⟩
    walk_at "go"
    refine g_inS rfl ?_
    exact k _ _ (Ex.refl _) ⟨c, by simpa using hc, rfl⟩
  intro H2 acc e2 ha hl hr
  walk_at "go"
  have ea : acc = (z.cps.toList.map fun c => decide (c ∈ figS.cps.toList)).map V.bl := by
    rw [List.map_map]
    refine acc_map (xs := z.cps.toList) (by rw [hl]; exact str_len z) fun j v hj => ?_
    obtain ⟨c, hc, rfl⟩ := hr j v hj
    exact ⟨c, hc, rfl⟩
  refine g_all (ea ▸ ha) ?_
  walk_at "go"
  have eal : ((z.cps.toList.map fun c => decide (c ∈ figS.cps.toList)).all id) = z.cps.toList.all (fun c => decide (c ∈ figS.cps.toList)) := by
    rw [List.all_map]
    rfl
  rw [eal]
  replace yes1 := yes1 c0
  cases hall : z.cps.toList.all (fun c => decide (c ∈ figS.cps.toList)) with
  | false =>
    walk_at "go"
    rw [hall, Bool.false_and] at yes1
    exact fin _ yes1.symm _ e2
  | true =>
    rw [hall, Bool.true_and] at yes1
    walk_at "go"
    refine i_eqS (fun c => ?_) fun c => ?_
    · walk_at "go"
      rw [decide_eq_true c, Bool.true_or] at yes1
      exact fin _ yes1.symm _ e2
    · rw [decide_eq_false c, Bool.false_or] at yes1
      have el := str_len z
      cases ez : z.cps.toList with
      | nil => rw [ez] at el; exact absurd el (by simp only [List.length_nil]; omega)
      | cons c0 r0 =>
        walk_at "go"
        refine g_ixS (c := c0) (by rw [ez]; exact (show atI (c0 :: r0) ((0 : Nat) : Int) = some c0 from atI_nat rfl)) hz2 ?_
        walk_at "go"
        rw [ez] at yes1
        refine fin _ ?_ _ e2
        rw [yes1]
        have : decide (V.str ⟨#[c0]⟩ = V.str "0") = decide (c0 = 48) := by
          refine decide_eq_decide.2 ⟨fun e => ?_, fun e => ?_⟩
          · have e' : (⟨#[c0]⟩ : Str) = "0" := by injection e
            have e2 := congrArg (fun s : Str => s.cps.toList) e'
            rw [zero_list] at e2
            exact (List.cons.inj e2).1
          · subst e
            exact congrArg V.str (str_ext zero_list.symm)
        rw [this]
        rfl
theorem vi_kinds_by_name_0 : Vis (defScope s_kinds_by_name) "wood" := by first | exact Or.inl (by decide +kernel) | exact Or.inr (Or.inl (by decide +kernel)) | exact Or.inr (Or.inr (by decide +kernel))
theorem ok_kinds_by_name (T : Txt K mg) : FnOk P w K mg base (L2.CX P w) 1 T.a_kinds_by_name T.d_kinds_by_name ["wood"] spKinds := by
  refine T.F_kinds_by_name.okX sc_kinds_by_name (fun vs H Q E h => ?_) (fun cdv A outer s H vs Q E hr h => ?_)
  · obtain ⟨_, _, rfl, _⟩ := h
    rfl
  obtain ⟨wd, v, rfl, rv, hl, q⟩ := h
  refine ⟨_, (pss_one (ps_ret (pe_callTy (call_dictP rfl) rfl T.z_dict boot_dict (pa_cons (pe_lc (own := [("number", 1), ("name", 2), ("makers", 3)]) (g := gTup K 2 (gCons (gName 1) (gCons (gTup K 2 (gCons (gName 2) (gCons (gName 3) gNil))) gNil))) rfl sc_kinds_by_name.nd (ui_enum rfl T.z_enumerate (pa_cons (uv 0 (hv := vi_kinds_by_name_0)) pa_nil)) (blkOk_by (own := [("number", 1), ("name", 2), ("makers", 3)]) (N := N_kinds_by_name) (sc := defScope s_kinds_by_name) (by decide +kernel)) (fun _ _ _ _ _ => (pg_tup rfl (pgs_cons (pg_name (i := 1) sc_kinds_by_name.nd rfl (by first | exact Or.inl rfl | exact Or.inr rfl)) (pgs_cons (pg_tup rfl (pgs_cons (pg_name (i := 2) sc_kinds_by_name.nd rfl (by first | exact Or.inl rfl | exact Or.inr rfl)) (pgs_cons (pg_name (i := 3) sc_kinds_by_name.nd rfl (by first | exact Or.inl rfl | exact Or.inr rfl)) pgs_nil))) pgs_nil)))) (fun _ _ _ _ _ => pts_nil) (fun _ _ _ _ _ => (pe_tup (pa_cons (uv 2) (pa_cons (uv 1) pa_nil))))) pa_nil)))), ?_⟩
  obtain ⟨a, xs, rfl, ha, rs⟩ := rv.tupI
  have lx : xs.length = wd.length := by rw [rs.len, List.length_map]
  walk_at "go"
  refine g_enT ?_
  walk_at "go"
  refine ⟨_, xs, rfl, sqT ha, fun D hD => ?_⟩
  refine lc_mapE walk_enumT (fun i H v => ∃ p k, v = .ref p ∧ wd[i]? = some k ∧ H p = some (.tup [.str k.1, .int (i : Nat)])) (by omega) hD (fun j H H' v t r => ?_) (fun H e => sqT (e _ _ ha)) ?_ ?_
  · obtain ⟨p, k, rfl, a1, a2⟩ := r
    exact ⟨p, k, rfl, a1, t _ _ a2⟩
  · rintro i x H2 H3 P N hi e ⟨t, y, z, rfl, ht, rfl, ey, ez⟩ k
    cases ey
    obtain ⟨kd, b, c, ys, ek, rfl, hb, hc, _⟩ := wood_at rs ez
    refine g_tup2 upd_same ?_
    walk_at "go"
    have e1 := Ex.new (o := .tup [.int (i : Nat), .ref b]) ht
    refine g_tup2 (e1 _ _ (e _ _ hb)) ?_
    walk_at "go"
    refine ⟨rfl, ?_⟩
    walk_at "go"
    refine g_new fun p hp => ?_
    exact k _ _ (e1.trans (Ex.new hp)) ⟨p, kd, rfl, ek, upd_same⟩
  · intro H2 acc e2 hacc hla hr2
    obtain ⟨ps, rfl, hps⟩ := paired_of wd 0 acc (by omega) fun j v hj => by
      obtain ⟨p, k, a1, a2, a3⟩ := hr2 j v hj
      exact ⟨p, k, a1, a2, by rw [Nat.zero_add]; exact a3⟩
    walk_at "go"
    refine ⟨_, ps, _, rfl, sqL hacc, hps _, fun p hp => ?_⟩
    exact q _ _ (e2.free hp) (e2.trans (Ex.new hp)) upd_same
theorem vi_makers_of_0 : Vis (defScope s_makers_of) "wood" := by first | exact Or.inl (by decide +kernel) | exact Or.inr (Or.inl (by decide +kernel)) | exact Or.inr (Or.inr (by decide +kernel))
theorem vi_makers_of_1 : Vis (defScope s_makers_of) "found" := by first | exact Or.inl (by decide +kernel) | exact Or.inr (Or.inl (by decide +kernel)) | exact Or.inr (Or.inr (by decide +kernel))
theorem vi_makers_of_3 : Vis (defScope s_makers_of) "makers" := by first | exact Or.inl (by decide +kernel) | exact Or.inr (Or.inl (by decide +kernel)) | exact Or.inr (Or.inr (by decide +kernel))
theorem lo_makers_of_1 : Loc (defScope s_makers_of) "found" := by first | exact Or.inl (by decide +kernel) | exact Or.inr (by decide +kernel)
theorem lo_makers_of_2 : Loc (defScope s_makers_of) "kind" := by first | exact Or.inl (by decide +kernel) | exact Or.inr (by decide +kernel)
theorem lo_makers_of_3 : Loc (defScope s_makers_of) "makers" := by first | exact Or.inl (by decide +kernel) | exact Or.inr (by decide +kernel)
theorem ok_makers_of (T : Txt K mg) : FnOk P w K mg base (L2.CX P w) 1 T.a_makers_of T.d_makers_of ["wood"] spMakersOf := by
  refine T.F_makers_of.okX sc_makers_of (fun vs H Q E h => ?_) (fun cdv A outer s H vs Q E hr h => ?_)
  · obtain ⟨_, _, rfl, _⟩ := h
    rfl
  obtain ⟨wd, v, rfl, rv, hl, hm, q⟩ := h
  refine ⟨_, (pss_cons (ps_set (i := 1) sc_makers_of.nd rfl lo_makers_of_1 (pe_lst pa_nil))
      (pss_cons (ps_for (passes_of rfl) rfl (ui_seq (uv 0 (hv := vi_makers_of_0))) (pg_tup rfl (pgs_cons (pg_name (i := 2) sc_makers_of.nd rfl lo_makers_of_2) (pgs_cons (pg_name (i := 3) sc_makers_of.nd rfl lo_makers_of_3) pgs_nil))) (pss_one (ps_aug (i := 1) sc_makers_of.nd rfl lo_makers_of_1 (pe_lc (own := [("name", 4), ("parts", 5)]) (g := gTup K 2 (gCons (gName 4) (gCons (gName 5) gNil))) rfl sc_makers_of.nd (ui_seq (uv 3 (hv := vi_makers_of_3))) (blkOk_by (own := [("name", 4), ("parts", 5)]) (N := N_makers_of) (sc := defScope s_makers_of) (by decide +kernel)) (fun _ _ _ _ _ => (pg_tup rfl (pgs_cons (pg_name (i := 4) sc_makers_of.nd rfl (by first | exact Or.inl rfl | exact Or.inr rfl)) (pgs_cons (pg_name (i := 5) sc_makers_of.nd rfl (by first | exact Or.inl rfl | exact Or.inr rfl)) pgs_nil)))) (fun _ _ _ _ _ => pts_nil) (fun _ _ _ _ _ => (uv 4))) ip_catL)))
      (pss_one (ps_ret (uv 1 (hv := vi_makers_of_1)))))), ?_⟩
  obtain ⟨a, xs, rfl, ha, rs⟩ := rv.tupI
  have lx : xs.length = wd.length := by rw [rs.len, List.length_map]
  walk_at "go"
  refine g_new fun l hl0 => ?_
  walk_at "go"
  refine g_seqTs ?_
  walk_at "go"
  refine ⟨_, rfl, ⟨xs, sqT (Ex.new hl0 _ _ ha)⟩, ?_⟩
  refine for_it walk_tup (fun i σ H1 => (∃ o2 o3 o4 o5, σ = [some (.ref a), some (.ref l), o2, o3, o4, o5]) ∧ Ex H H1 ∧ H1 l = some (.lst ((mkNames (wd.take i)).map V.str))) ⟨⟨none, none, none, none, rfl⟩, Ex.new hl0, upd_same⟩ (fun i σ H1 _ h => sqT (h.2.1 _ _ ha)) ?_ ?_
  · rintro i x σ H1 H1' hi ⟨⟨o2, o3, o4, o5, rfl⟩, e1, hl1⟩ ⟨rfl, hx⟩
    obtain ⟨kd, b, c, ys, ek, rfl, hb, hc, ry⟩ := wood_at rs hx
    have ly : ys.length = kd.2.length := by rw [ry.len, List.length_map]
    have hk := hm kd (List.mem_of_getElem? ek)
    refine g_tup2 (e1 _ _ hb) ?_
    walk_at "go"
    refine g_augL rfl ?_
    walk_at "go"
    refine g_seqTs ?_
    walk_at "go"
    refine ⟨_, rfl, ⟨ys, sqT (e1 _ _ hc)⟩, fun D hD => ?_⟩
    refine lc_mapE walk_tup (fun j _ v => ∃ m, kd.2[j]? = some m ∧ v = .str m.1) (by omega) hD (fun _ _ _ _ _ r => r) (fun H2 e => sqT (e _ _ (e1 _ _ hc))) ?_ ?_
    · rintro j y H2 H3 P N hj e ⟨rfl, hy⟩ k
      obtain ⟨m, b2, c2, em, rfl, hb2, _⟩ := mk_at ry hy
      refine g_tup2 (e _ _ (e1 _ _ hb2)) ?_
      walk_at "go"
      refine ⟨rfl, ?_⟩
      walk_at "go"
      exact k _ _ (Ex.refl _) ⟨m, em, rfl⟩
    · intro H2 acc e2 hacc hla hr2
      have ea : acc = (kd.2.map Prod.fst).map V.str := by
        refine List.ext_getElem? fun j => ?_
        cases h : acc[j]? with
        | none =>
          have := List.getElem?_eq_none_iff.1 h
          symm
          rw [List.getElem?_eq_none_iff, List.length_map, List.length_map]
          omega
        | some v =>
          obtain ⟨m, em, rfl⟩ := hr2 j v h
          rw [List.getElem?_map, List.getElem?_map, em]
          rfl
      subst ea
      have en : mkNames (wd.take (i + 1)) = mkNames (wd.take i) ++ kd.2.map Prod.fst := by
        unfold mkNames
        rw [List.take_add_one, ek, List.map_append, List.flatten_append]
        simp
      have le : (mkNames (wd.take (i + 1))).length ≤ (mkNames wd).length := by
        have : mkNames wd = mkNames (wd.take (i + 1)) ++ mkNames (wd.drop (i + 1)) := by
          unfold mkNames
          rw [← List.flatten_append, ← List.map_append, List.take_append_drop]
        rw [this, List.length_append]
        omega
      rw [en, List.length_append, List.length_map] at le
      refine g_iadd (e2 _ _ hl1) hacc (by rw [List.length_map, List.length_map, List.length_map]; omega) ?_
      walk_at "go"
      refine ⟨⟨_, _, _, _, rfl⟩, (e1.trans e2).at_new hl0, ?_⟩
      rw [upd_same, en, List.map_append]
  · rintro σ H1 ⟨⟨o2, o3, o4, o5, rfl⟩, e1, hl1⟩
    rw [lx, List.take_length] at hl1
    walk_at "go"
    exact q _ _ hl0 e1 hl1
theorem vi_law_box_0 : Vis (defScope s_law_box) "_law_script" := by first | exact Or.inl (by decide +kernel) | exact Or.inr (Or.inl (by decide +kernel)) | exact Or.inr (Or.inr (by decide +kernel))
theorem vi_law_box_1 : Vis (defScope s_law_box) "_law_k" := by first | exact Or.inl (by decide +kernel) | exact Or.inr (Or.inl (by decide +kernel)) | exact Or.inr (Or.inr (by decide +kernel))
theorem vi_law_box_2 : Vis (defScope s_law_box) "_law_cell" := by first | exact Or.inl (by decide +kernel) | exact Or.inr (Or.inl (by decide +kernel)) | exact Or.inr (Or.inr (by decide +kernel))
theorem vi_law_box_3 : Vis (defScope s_law_box) "_law_seed" := by first | exact Or.inl (by decide +kernel) | exact Or.inr (Or.inl (by decide +kernel)) | exact Or.inr (Or.inr (by decide +kernel))
theorem lo_law_box_2 : Loc (defScope s_law_box) "_law_cell" := by first | exact Or.inl (by decide +kernel) | exact Or.inr (by decide +kernel)
theorem lo_law_box_3 : Loc (defScope s_law_box) "_law_seed" := by first | exact Or.inl (by decide +kernel) | exact Or.inr (by decide +kernel)
theorem ok_law_box (T : Txt K mg) : FnOk P w K mg base (L2.CX P w) 1 T.a_law_box T.d_law_box ["_law_script", "_law_k"] (spBox K) := by
  refine T.F_law_box.okX sc_law_box (fun vs H Q E h => ?_) (fun cdv A outer s H vs Q E hr h => ?_)
  · obtain ⟨p, ns, k, rfl, _⟩ := h
    rfl
  obtain ⟨p, ns, k, rfl, hS, hl, q⟩ := h
  refine ⟨_, (pss_cons (ps_set (i := 2) sc_law_box.nd rfl lo_law_box_2 (pe_op uo_add (pe_op uo_mul pe_int (uv 1 (hv := vi_law_box_1))) pe_int))
      (C8.pss_cut (ps_if (pt_cmpR uo_lt (uv 1 (hv := vi_law_box_1)) (pe_callB uk_len rfl T.z_len boot_len (pa_cons (uv 0 (hv := vi_law_box_0)) pa_nil)) (nomark _)) (pss_one (ps_set (i := 2) sc_law_box.nd rfl lo_law_box_2 (pe_ix ux_seq (uv 0 (hv := vi_law_box_0)) (uv 1 (hv := vi_law_box_1)) (fun _ _ => rfl)))) (pss_one (ps_if (pt_cmpR uo_gt (pe_callB uk_len rfl T.z_len boot_len (pa_cons (uv 0 (hv := vi_law_box_0)) pa_nil)) pe_int (nomark _)) (pss_one (ps_set (i := 2) sc_law_box.nd rfl lo_law_box_2 (pe_op uo_add (uv 2 (hv := vi_law_box_2)) (pe_op uo_mul (pe_op uo_mod (pe_ix ux_seq (uv 0 (hv := vi_law_box_0)) (pe_op uo_mod (uv 1 (hv := vi_law_box_1)) (pe_callB uk_len rfl T.z_len boot_len (pa_cons (uv 0 (hv := vi_law_box_0)) pa_nil))) (fun _ _ => rfl)) pe_int) pe_int)))) pss_nil)))
      (pss_cons (ps_set (i := 3) sc_law_box.nd rfl lo_law_box_3 (pe_op uo_add (pe_op uo_mod (pe_op uo_add (pe_op uo_mul (pe_op uo_mod (uv 2 (hv := vi_law_box_2)) pe_int) pe_int) (pe_op uo_mul pe_int (uv 1 (hv := vi_law_box_1)))) pe_int) pe_int))
      (pss_one (ps_ret (pe_lst (pa_cons (pe_ix ux_seq (pe_lst (pa_cons pe_int (pa_cons (uv 2 (hv := vi_law_box_2)) pa_nil))) (pe_callTy uk_int rfl T.z_int boot_int (pa_cons (pe_cmpR uo_ge (uv 2 (hv := vi_law_box_2)) (pe_op uo_pow pe_int pe_int) (nomark _)) pa_nil)) (fun _ _ => rfl)) (pa_cons (uv 3 (hv := vi_law_box_3)) (pa_cons pe_int pa_nil))))))))), ?_⟩
  walk_at "go"
  refine ⟨fun σ' H' => (∃ x : Int, σ' = [some (V.ref p), some (V.int k), some (V.int x), none]) ∧ H' = H, ?_, ?_⟩
  · walk_at "go"
    refine i_d (fun c => ?_) fun c => ?_
    · walk_at "go"
      have c' : k < ns.length := by
        rw [List.length_map] at c
        omega
      refine g_ixSq hS (at_ints c') ?_
      walk_at "go"
      exact ⟨⟨_, rfl⟩, rfl⟩
    · walk_at "go"
      refine i_d (fun c => ?_) fun c => ?_
      · walk_at "go"
        have hn : (0 : Int) < ((ns.map V.int).length : Nat) := c
        have e : ((k : Int).fmod ((ns.map V.int).length : Nat)) = ((k % ns.length : Nat) : Int) := by
          rw [Int.fmod_eq_emod_of_nonneg _ (by omega), List.length_map]
          rfl
        have c' : k % ns.length < ns.length := Nat.mod_lt _ (by rw [List.length_map] at hn; omega)
        refine g_ixSq hS (by rw [e]; exact at_ints c') ?_
        walk_at "go"
        exact ⟨⟨_, rfl⟩, rfl⟩
      · walk_at "go"
        exact ⟨⟨_, rfl⟩, rfl⟩
  · rintro σ' H' ⟨⟨x, rfl⟩, rfl⟩
    walk_at "go"
    refine g_new fun a ha => ?_
    have h1 := @upd_same H' a (.lst [V.int 0, V.int x])
    walk_at "go"
    have fin : ∀ v : Int, atI [V.int 0, V.int x] (b2z (decide ((10 : Int) ^ Int.toNat 18 ≤ x))) = some (.int v) → _ := fun _ _ => True.intro
    have ev : ∃ v : Int, atI [V.int 0, V.int x] (b2z (decide ((10 : Int) ^ Int.toNat 18 ≤ x))) = some (.int v) := by
      by_cases c : (10 : Int) ^ Int.toNat 18 ≤ x
      · rw [decide_eq_true c]
        exact ⟨x, rfl⟩
      · rw [decide_eq_false c]
        exact ⟨0, rfl⟩
    obtain ⟨v, ev⟩ := ev
    refine g_ixL h1 ev ?_
    walk_at "go"
    refine g_new fun b hb => ?_
    have e1 : Ex H' (upd H' a (.lst [V.int 0, V.int x])) := Ex.new ha
    exact q _ _ (e1.free hb) (e1.trans (Ex.new hb)) ⟨_, _, _, upd_same⟩
theorem vi_law_take_0 : Vis (defScope s_law_take) "_law_box_here" := by first | exact Or.inl (by decide +kernel) | exact Or.inr (Or.inl (by decide +kernel)) | exact Or.inr (Or.inr (by decide +kernel))
theorem vi_law_take_1 : Vis (defScope s_law_take) "_law_many" := by first | exact Or.inl (by decide +kernel) | exact Or.inr (Or.inl (by decide +kernel)) | exact Or.inr (Or.inr (by decide +kernel))
theorem vi_law_take_2 : Vis (defScope s_law_take) "_law_digit" := by first | exact Or.inl (by decide +kernel) | exact Or.inr (Or.inl (by decide +kernel)) | exact Or.inr (Or.inr (by decide +kernel))
theorem vi_law_take_3 : Vis (defScope s_law_take) "_law_one" := by first | exact Or.inl (by decide +kernel) | exact Or.inr (Or.inl (by decide +kernel)) | exact Or.inr (Or.inr (by decide +kernel))
theorem lo_law_take_2 : Loc (defScope s_law_take) "_law_digit" := by first | exact Or.inl (by decide +kernel) | exact Or.inr (by decide +kernel)
theorem lo_law_take_3 : Loc (defScope s_law_take) "_law_one" := by first | exact Or.inl (by decide +kernel) | exact Or.inr (by decide +kernel)
theorem ok_law_take (T : Txt K mg) : FnOk P w K mg base (L2.CX P w) 1 T.a_law_take T.d_law_take ["_law_box_here", "_law_many"] spTake := by
  refine T.F_law_take.okX sc_law_take (fun vs H Q E h => ?_) (fun cdv A outer s H vs Q E hr h => ?_)
  · obtain ⟨p, m, rfl, _⟩ := h
    rfl
  obtain ⟨p, m, rfl, ⟨a, b, c, hp⟩, hm, hm2, q⟩ := h
  have hm0 : m ≠ 0 := by omega
  refine ⟨_, (pss_cons (ps_if (pt_cmpR uo_gt (pe_ix ux_seq (uv 0 (hv := vi_law_take_0)) pe_int (fun _ _ => rfl)) pe_int (nomark _)) (pss_cons (ps_set (i := 2) sc_law_take.nd rfl lo_law_take_2 (pe_op uo_mod (pe_ix ux_seq (uv 0 (hv := vi_law_take_0)) pe_int (fun _ _ => rfl)) (uv 1 (hv := vi_law_take_1))))
      (pss_cons (ps_asg (pe_op uo_fd (pe_ix ux_seq (uv 0 (hv := vi_law_take_0)) pe_int (fun _ _ => rfl)) (uv 1 (hv := vi_law_take_1))) (pg_sub (uv 0 (hv := vi_law_take_0)) pe_int set_list))
      (pss_one (ps_ret (uv 2 (hv := vi_law_take_2)))))) pss_nil)
      (pss_cons (ps_asg (pe_op uo_add (pe_ix ux_seq (uv 0 (hv := vi_law_take_0)) pe_int (fun _ _ => rfl)) pe_int) (pg_sub (uv 0 (hv := vi_law_take_0)) pe_int set_list))
      (pss_cons (ps_set (i := 3) sc_law_take.nd rfl lo_law_take_3 (pe_op uo_mod (pe_op uo_mul (pe_op uo_add (pe_ix ux_seq (uv 0 (hv := vi_law_take_0)) pe_int (fun _ _ => rfl)) (pe_op uo_mul pe_int (pe_ix ux_seq (uv 0 (hv := vi_law_take_0)) pe_int (fun _ _ => rfl)))) pe_int) pe_int))
      (pss_cons (ps_asg (pe_op uo_add (pe_op uo_mod (pe_op uo_add (pe_op uo_mul (uv 3 (hv := vi_law_take_3)) pe_int) pe_int) pe_int) pe_int) (pg_sub (uv 0 (hv := vi_law_take_0)) pe_int set_list))
      (pss_one (ps_ret (pe_op uo_mod (pe_op uo_fd (pe_op uo_add (pe_op uo_mul (uv 3 (hv := vi_law_take_3)) pe_int) (pe_ix ux_seq (uv 0 (hv := vi_law_take_0)) pe_int (fun _ _ => rfl))) pe_int) (uv 1 (hv := vi_law_take_1))))))))), ?_⟩
  walk_at "go"
  refine i_d (fun c1 => ?_) fun c1 => ?_
  · walk_at "go"
    refine g_i ?_ ⟨hm0, hm2⟩
    walk_at "go"
    refine g_setL hp (by rfl) ?_
    walk_at "go"
    exact q _ _ (fmod_pos hm).1 (fmod_pos hm).2 (But.upd (But.refl _ _)) ⟨_, _, _, upd_same⟩
  · walk_at "go"
    refine g_setL hp (by rfl) ?_
    have h1 : upd H p (.lst ([V.int a, V.int b, V.int c].set 2 (.int (c + 1)))) p = some (.lst [.int a, .int b, .int (c + 1)]) := upd_same
    walk_at "go"
    refine g_setL h1 (by rfl) ?_
    have h2 := @upd_same (upd H p (.lst ([V.int a, V.int b, V.int c].set 2 (.int (c + 1))))) p (.lst ([V.int a, V.int b, V.int (c + 1)].set 1 (.int ((((b + 104729 * (c + 1)) * 69623).fmod 2147483647 * 48271 + 30103).fmod 2147483629 + 1))))
    walk_at "go"
    exact q _ _ (fmod_pos hm).1 (fmod_pos hm).2 ((But.refl _ _).upd.upd) ⟨_, _, _, h2⟩
theorem vi_law_makers_0 : Vis (defScope s_law_makers) "_law_wood_here" := by first | exact Or.inl (by decide +kernel) | exact Or.inr (Or.inl (by decide +kernel)) | exact Or.inr (Or.inr (by decide +kernel))
theorem vi_law_makers_2 : Vis (defScope s_law_makers) "_law_found" := by first | exact Or.inl (by decide +kernel) | exact Or.inr (Or.inl (by decide +kernel)) | exact Or.inr (Or.inr (by decide +kernel))
theorem vi_law_makers_5 : Vis (defScope s_law_makers) "_law_makers_here" := by first | exact Or.inl (by decide +kernel) | exact Or.inr (Or.inl (by decide +kernel)) | exact Or.inr (Or.inr (by decide +kernel))
theorem lo_law_makers_1 : Loc (defScope s_law_makers) "_law_kinds" := by first | exact Or.inl (by decide +kernel) | exact Or.inr (by decide +kernel)
theorem lo_law_makers_2 : Loc (defScope s_law_makers) "_law_found" := by first | exact Or.inl (by decide +kernel) | exact Or.inr (by decide +kernel)
theorem lo_law_makers_3 : Loc (defScope s_law_makers) "_law_kind" := by first | exact Or.inl (by decide +kernel) | exact Or.inr (by decide +kernel)
theorem lo_law_makers_4 : Loc (defScope s_law_makers) "_law_name" := by first | exact Or.inl (by decide +kernel) | exact Or.inr (by decide +kernel)
theorem lo_law_makers_5 : Loc (defScope s_law_makers) "_law_makers_here" := by first | exact Or.inl (by decide +kernel) | exact Or.inr (by decide +kernel)
theorem ok_law_makers (T : Txt K mg) : FnOk P w K mg base (L2.CX P w) 1 T.a_law_makers T.d_law_makers ["_law_wood_here"] spMakers := by
  refine T.F_law_makers.okX sc_law_makers (fun vs H Q E h => ?_) (fun cdv A outer s H vs Q E hr h => ?_)
  · obtain ⟨_, _, rfl, _⟩ := h
    rfl
  obtain ⟨wd, v, rfl, rv, ok, q⟩ := h
  refine ⟨_, (pss_cons (ps_set (i := 1) sc_law_makers.nd rfl lo_law_makers_1 (pe_lc (own := [("_law_name", 4), ("_law_makers_here", 5)]) (g := gTup K 2 (gCons (gName 4) (gCons (gName 5) gNil))) rfl sc_law_makers.nd (ui_seq (uv 0 (hv := vi_law_makers_0))) (blkOk_by (own := [("_law_name", 4), ("_law_makers_here", 5)]) (N := N_law_makers) (sc := defScope s_law_makers) (by decide +kernel)) (fun _ _ _ _ _ => (pg_tup rfl (pgs_cons (pg_name (i := 4) sc_law_makers.nd rfl (by first | exact Or.inl rfl | exact Or.inr rfl)) (pgs_cons (pg_name (i := 5) sc_law_makers.nd rfl (by first | exact Or.inl rfl | exact Or.inr rfl)) pgs_nil)))) (fun _ _ _ _ _ => pts_nil) (fun _ _ _ _ _ => (uv 4))))
      (pss_cons (ps_set (i := 2) sc_law_makers.nd rfl lo_law_makers_2 (pe_lst pa_nil))
      (pss_cons (ps_for (passes_of rfl) rfl (ui_enum rfl T.z_enumerate (pa_cons (uv 0 (hv := vi_law_makers_0)) pa_nil)) (pg_tup rfl (pgs_cons (pg_name (i := 3) sc_law_makers.nd rfl lo_law_makers_3) (pgs_cons (pg_tup rfl (pgs_cons (pg_name (i := 4) sc_law_makers.nd rfl lo_law_makers_4) (pgs_cons (pg_name (i := 5) sc_law_makers.nd rfl lo_law_makers_5) pgs_nil))) pgs_nil))) (pss_one (ps_expr (pe_bm PySem.F.plainAttrs_list PySem.F.slot_list_extend PySem.F.type_list_extend mt_extend (uv 2 (hv := vi_law_makers_2)) (pa_cons (pe_lc (own := [("_law_maker", 6), ("_law_parts", 7)]) (g := gTup K 2 (gCons (gName 6) (gCons (gName 7) gNil))) rfl sc_law_makers.nd (ui_seq (uv 5 (hv := vi_law_makers_5))) (blkOk_by (own := [("_law_maker", 6), ("_law_parts", 7)]) (N := N_law_makers) (sc := defScope s_law_makers) (by decide +kernel)) (fun _ _ _ _ _ => (pg_tup rfl (pgs_cons (pg_name (i := 6) sc_law_makers.nd rfl (by first | exact Or.inl rfl | exact Or.inr rfl)) (pgs_cons (pg_name (i := 7) sc_law_makers.nd rfl (by first | exact Or.inl rfl | exact Or.inr rfl)) pgs_nil)))) (fun _ _ _ _ _ => pts_nil) (fun _ _ _ _ _ => (pe_tup (pa_cons (uv 6) (pa_cons (uv 3) (pa_cons (pe_callTy (show CallR _ (.type "tuple") (uTup K) from uk_tup) rfl T.z_tuple boot_tuple (pa_cons (pe_lc (own := [("_law_part", 8)]) (g := gName 8) rfl sc_law_makers.nd (show PI _ _ _ (uSeq K _) from (ui_seq (uv 7))) (blkOk_by (own := [("_law_part", 8)]) (by kernel_rfl)) (fun _ _ _ _ _ => (pg_name (i := 8) sc_law_makers.nd rfl (by first | exact Or.inl rfl | exact Or.inr rfl))) (fun _ _ _ _ _ => pts_nil) (fun _ _ _ _ _ => (show PE _ _ (tBM K "list" (rIndex K) _ _) from (pe_bm PySem.F.plainAttrs_list PySem.F.slot_list_index PySem.F.type_list_index mt_index (uv 1) (pa_cons (uv 8) pa_nil))))) pa_nil)) pa_nil)))))) pa_nil)))))
      (pss_one (ps_ret (uv 2 (hv := vi_law_makers_2))))))), ?_⟩
  obtain ⟨a, xs, rfl, ha, rs⟩ := id rv.tupI
  have lx : xs.length = wd.length := by rw [rs.len, List.length_map]
  have pk := ok.kinds
  have pm := ok.many
  walk_at "go"
  refine g_seqTs ?_
  walk_at "go"
  refine ⟨_, rfl, ⟨xs, sqT ha⟩, fun kl hkl => ?_⟩
  refine lc_mapE walk_tup (fun j _ v => ∃ s, v = V.str s ∧ (wd.map Prod.fst)[j]? = some s) (by omega) hkl (fun _ _ _ _ _ r => r) (fun H2 e => sqT (e _ _ ha)) ?_ ?_
  · rintro j y H2 H3 P N hj e ⟨rfl, hy⟩ k
    obtain ⟨kd, b, c, ys, ek, rfl, hb, hc, _⟩ := wood_at rs hy
    refine g_tup2 (e _ _ hb) ?_
    walk_at "go"
    refine ⟨rfl, ?_⟩
    walk_at "go"
    exact k _ _ (Ex.refl _) ⟨kd.1, rfl, by rw [List.getElem?_map, ek]; rfl⟩
  intro H1 acc e1 hacc hla hr2
  obtain ⟨ks, rfl, hks, hkp⟩ := acc_strs hla hr2
  have ek : ks = wd.map Prod.fst := by
    refine List.ext_getElem? fun j => ?_
    cases c : ks[j]? with
    | none =>
      have := List.getElem?_eq_none_iff.1 c
      symm
      rw [List.getElem?_eq_none_iff, List.length_map]
      omega
    | some s => rw [hkp j s c]
  subst ek
  walk_at "go"
  refine g_new fun l hl => ?_
  walk_at "go"
  have e2 := e1.trans (Ex.new (o := .lst []) hl)
  have hl0 := e1.free hl
  have nkl : kl ≠ l := fun z => by rw [z, hl] at hacc; cases hacc
  refine g_enT ?_
  walk_at "go"
  refine ⟨_, xs, rfl, sqT (e2 _ _ ha), ?_⟩
  refine for_it walk_enumT (fun i σ H2 => (∃ o3 o4 o5 o6 o7 o8, σ = [some (.ref a), some (.ref kl), some (.ref l), o3, o4, o5, o6, o7, o8]) ∧ Ex H1 H2 ∧ ∃ us, H2 l = some (.lst us) ∧ Dues wd H2 (tabFrom 0 (wd.take i)) us) ⟨⟨_, _, _, _, _, _, rfl⟩, Ex.new hl, [], upd_same, rfl, fun j v z => by simp at z⟩ (fun i σ H2 _ h => sqT ((e1.trans h.2.1) _ _ ha)) ?_ ?_
  · rintro i x σ H2 H2' hi ⟨⟨o3, o4, o5, o6, o7, o8, rfl⟩, e3, us, hus, hD⟩ ⟨t, y, z, rfl, ht, rfl, ey, ez⟩
    cases ey
    obtain ⟨kd, b, c, ys, ekd, rfl, hb, hc, ry⟩ := wood_at rs ez
    have ly : ys.length = kd.2.length := by rw [ry.len, List.length_map]
    have e4 := Ex.new (o := .tup [.int (i : Nat), .ref b]) ht
    refine g_tup2 upd_same ?_
    walk_at "go"
    have e33 := e3.trans e4
    have e13 := e1.trans e33
    refine g_tup2 (e13 _ _ hb) ?_
    walk_at "go"
    have us4 := e4 _ _ hus
    refine g_tyL us4 ?_
    walk_at "go"
    refine g_seqTs ?_
    walk_at "go"
    refine ⟨_, rfl, ⟨ys, sqT (e13 _ _ hc)⟩, fun D hDn => ?_⟩
    have hmk : ∀ m ∈ kd.2, _ := ok.mkr kd (List.mem_of_getElem? ekd)
    have sp := tab_split wd 0 i kd ekd
    rw [Nat.zero_add] at sp
    have nm2 := pm
    rw [sp, List.length_append, List.length_append, List.length_map] at nm2
    refine lc_mapE walk_tup (fun j H5 v => ∃ m, kd.2[j]? = some m ∧ DueAt wd H5 (i, m) v) (by omega) hDn (fun j H H' v t r => r.elim fun m z => ⟨m, z.1, z.2.tk t⟩) (fun H5 e => sqT (e _ _ (e13 _ _ hc))) ?_ ?_
    · rintro j y H5 H6 P N hj e5 ⟨rfl, hy⟩ k
      obtain ⟨m, b2, c2, em, rfl, hb2, hc2⟩ := mk_at ry hy
      have e15 := e13.trans e5
      have hm := hmk m (List.mem_of_getElem? em)
      refine g_tup2 (e15 _ _ hb2) ?_
      walk_at "go"
      refine ⟨rfl, ?_⟩
      walk_at "go"
      refine g_seqTs ?_
      walk_at "go"
      refine ⟨_, rfl, ⟨_, sqT (e15 _ _ hc2)⟩, fun D2 hD2 => ?_⟩
      refine lc_mapE walk_tup (fun u _ v => ∃ s, m.2[u]? = some s ∧ v = .int (kno wd s)) (by rw [List.length_map]; omega) hD2 (fun _ _ _ _ _ r => r) (fun H7 e => sqT (e _ _ (e15 _ _ hc2))) ?_ ?_
      · rintro u y H7 H8 P2 N2 hu e7 ⟨rfl, hy2⟩ k2
        rw [List.getElem?_map] at hy2
        cases es : m.2[u]? with
        | none => rw [es] at hy2; cases hy2
        | some s =>
          rw [es] at hy2
          cases hy2
          walk_at "go"
          refine ⟨rfl, ?_⟩
          walk_at "go"
          have kl7 := (e33.trans (e5.trans e7)) _ _ hacc
          refine g_tyL kl7 ?_
          walk_at "go"
          refine g_lidx ok.knd kl7 (hm.2.2 s (List.mem_of_getElem? es)) ?_
          exact k2 _ _ (Ex.refl _) ⟨s, es, rfl⟩
      · intro H7 acc2 e7 hacc2 hla2 hr3
        have ea : acc2 = m.2.map fun s => V.int (kno wd s) := by
          refine List.ext_getElem? fun u => ?_
          cases h : acc2[u]? with
          | none =>
            have := List.getElem?_eq_none_iff.1 h
            symm
            rw [List.getElem?_eq_none_iff, List.length_map]
            rw [List.length_map] at hla2
            omega
          | some v =>
            obtain ⟨s, es, rfl⟩ := hr3 u v h
            rw [List.getElem?_map, es]
            rfl
        subst ea
        walk_at "go"
        refine g_tupOf hacc2 fun t2 ht2 => ?_
        walk_at "go"
        refine g_new fun t3 ht3 => ?_
        exact k _ _ (e7.trans ((Ex.new ht2).trans (Ex.new ht3))) ⟨m, em, t3, t2, rfl, upd_same, Ex.new ht3 _ _ upd_same⟩
    · intro H5 acc2 e5 hacc2 hla2 hr3
      have dd : Dues wd H5 (kd.2.map fun m => (i, m)) acc2 := ⟨by rw [List.length_map]; omega, fun j v hj => by
        obtain ⟨m, em, hd⟩ := hr3 j v hj
        exact ⟨(i, m), by rw [List.getElem?_map, em]; rfl, hd⟩⟩
      have us5 := e5 _ _ us4
      have lu := hD.1
      walk_at "go"
      refine g_ext us5 hacc2 (by omega) ?_
      have b6 : Tk H5 (upd H5 l (.lst (us ++ acc2))) := ((But.refl l H5).upd).tkl us5
      have fin := (((hD.tk (e4.tk.trans e5.tk)).app dd).tk b6)
      have tt := tab_take wd 0 i kd ekd
      rw [Nat.zero_add] at tt
      walk_at "go"
      exact ⟨⟨_, _, _, _, _, _, rfl⟩, (e33.trans e5).at_new hl, _, upd_same, by rw [tt]; exact fin⟩
  · rintro σ H2 ⟨⟨o3, o4, o5, o6, o7, o8, rfl⟩, e3, us, hus, hD⟩
    rw [lx, List.take_length] at hD
    walk_at "go"
    exact q _ _ us (e1.trans e3) hus hD
theorem vi_law_shared_0 : Vis (defScope s_law_shared) "_law_one" := by first | exact Or.inl (by decide +kernel) | exact Or.inr (Or.inl (by decide +kernel)) | exact Or.inr (Or.inr (by decide +kernel))
theorem vi_law_shared_1 : Vis (defScope s_law_shared) "_law_other" := by first | exact Or.inl (by decide +kernel) | exact Or.inr (Or.inl (by decide +kernel)) | exact Or.inr (Or.inr (by decide +kernel))
theorem ok_law_shared (T : Txt K mg) : FnOk P w K mg base (L2.CX P w) 1 T.a_law_shared T.d_law_shared ["_law_one", "_law_other"] spGcdP := by
  refine T.F_law_shared.okX sc_law_shared (fun vs H Q E h => ?_) (fun cdv A outer s H vs Q E hr h => ?_)
  · obtain ⟨a, b, rfl, _⟩ := h
    rfl
  obtain ⟨a, b, rfl, a0, b0, q⟩ := h
  refine ⟨_, (pss_cons (ps_while (passes_of rfl) (pt_cmpR uo_gt (uv 1 (hv := vi_law_shared_1)) pe_int (nomark _)) (pss_one (ps_par (i := 0) (j := 1) rfl sc_law_shared.nd rfl rfl (by decide) rfl rfl (pa_cons (uv 1 (hv := vi_law_shared_1)) (pa_cons (pe_op uo_mod (uv 0 (hv := vi_law_shared_0)) (uv 1 (hv := vi_law_shared_1))) pa_nil)) rfl)))
      (pss_one (ps_ret (uv 0 (hv := vi_law_shared_0))))), ?_⟩
  refine g_seq (g_while (fun m σ H1 => ∃ x y : Int, σ = [some (.int x), some (.int y)] ∧ H1 = H ∧ 0 ≤ x ∧ 0 ≤ y ∧ Int.gcd x y = Int.gcd a b ∧ m = y.natAbs) _ ⟨a, b, rfl, rfl, a0, b0, rfl, rfl⟩ ?_)
  rintro m σ H1 ⟨x, y, rfl, rfl, x0, y0, hg, rfl⟩
  walk_at "go"
  refine i_d (fun c => g_wn ?_) fun c => ?_
  · have yn : y ≠ 0 := by omega
    walk_at "go"
    exact ⟨_, fmodLess yn, y, x.fmod y, rfl, rfl, y0, Int.fmod_nonneg_of_pos x (by omega), (gcdFmod x y).trans hg, rfl⟩
  · walk_at "go"
    have : y = 0 := by omega
    subst this
    rw [Int.gcd_zero_right] at hg
    have ex : x = ((Int.gcd a b : Nat) : Int) := by omega
    rw [ex]
    exact q
theorem vi_law_text_of_0 : Vis (defScope s_law_text_of) "_law_number" := by first | exact Or.inl (by decide +kernel) | exact Or.inr (Or.inl (by decide +kernel)) | exact Or.inr (Or.inr (by decide +kernel))
theorem ok_law_text_of (T : Txt K mg) : FnOk P w K mg base (L2.CX P w) 1 T.a_law_text_of T.d_law_text_of ["_law_number"] spTextOf := by
  refine T.F_law_text_of.okX sc_law_text_of (fun vs H Q E h => ?_) (fun cdv A outer s H vs Q E hr h => ?_)
  · obtain ⟨_, _, rfl, _⟩ := h
    rfl
  obtain ⟨p, f, rfl, hp, b1, b2, q⟩ := h
  refine ⟨_, (pss_one (ps_ret (pe_op uo_add (pe_callTy uk_str rfl T.z_str boot_str (pa_cons (pe_ix ux_seq (uv 0 (hv := vi_law_text_of_0)) pe_int (fun _ _ => rfl)) pa_nil)) (pe_op op_repS (pe_op uo_add pe_str (pe_callTy uk_str rfl T.z_str boot_str (pa_cons (pe_ix ux_seq (uv 0 (hv := vi_law_text_of_0)) pe_int (fun _ _ => rfl)) pa_nil))) (pe_callTy uk_int rfl T.z_int boot_int (pa_cons (pe_cmpR op_ne (pe_ix ux_seq (uv 0 (hv := vi_law_text_of_0)) pe_int (fun _ _ => rfl)) pe_int (nomark _)) pa_nil)))))), ?_⟩
  have l1 := numT_bits b1
  have l2 := numT_bits b2
  walk_at "go"
  refine g_str (log_of b1 (by decide) (by decide)) ?_
  walk_at "go"
  refine g_str (log_of b2 (by decide) (by decide)) ?_
  walk_at "go"
  refine g_addS (by show 1 + _ ≤ _; omega) ?_
  walk_at "go"
  refine g_repS (by unfold b2z; split <;> decide) (by unfold b2z; split <;> decide) (by rw [app_len]; show 1 + _ ≤ _; omega) ?_
  have lr := repS_len ("/" ++ numT f.2) (b2z (!decide (V.int f.2 = V.int 1)))
  have e : numT f.1 ++ repS ("/" ++ numT f.2) (b2z (!decide (V.int f.2 = V.int 1))) = showFx f := by
    rw [decInt]
    by_cases c : f.2 = 1
    · rw [decide_eq_true c]
      have : showFx f = numT f.1 := if_pos c
      rw [this]
      refine str_ext ?_
      rw [app_list]
      exact List.append_nil _
    · rw [decide_eq_false c]
      have : showFx f = numT f.1 ++ "/" ++ numT f.2 := if_neg c
      rw [this]
      refine str_ext ?_
      rw [app_list, app_list, app_list, List.append_assoc]
      congr 1
      show (("/" ++ numT f.2 : Str).cps.toList ++ []) = _
      rw [List.append_nil, app_list]
  refine g_addS ?_ ?_
  · have : (b2z (!decide (V.int f.2 = V.int 1))).toNat ≤ 1 := by unfold b2z; split <;> decide
    have := Nat.mul_le_mul_right ("/" ++ numT f.2 : Str).length this
    have l4 : ("/" ++ numT f.2 : Str).length = 1 + (numT f.2).length := app_len _ _
    omega
  rw [e]
  exact q
theorem vi_law_alike_0 : Vis (defScope s_law_alike) "_law_found" := by first | exact Or.inl (by decide +kernel) | exact Or.inr (Or.inl (by decide +kernel)) | exact Or.inr (Or.inr (by decide +kernel))
theorem vi_law_alike_1 : Vis (defScope s_law_alike) "_law_due" := by first | exact Or.inl (by decide +kernel) | exact Or.inr (Or.inl (by decide +kernel)) | exact Or.inr (Or.inr (by decide +kernel))
theorem vi_law_alike_2 : Vis (defScope s_law_alike) "_law_left" := by first | exact Or.inl (by decide +kernel) | exact Or.inr (Or.inl (by decide +kernel)) | exact Or.inr (Or.inr (by decide +kernel))
theorem vi_law_alike_3 : Vis (defScope s_law_alike) "_law_one" := by first | exact Or.inl (by decide +kernel) | exact Or.inr (Or.inl (by decide +kernel)) | exact Or.inr (Or.inr (by decide +kernel))
theorem vi_law_alike_4 : Vis (defScope s_law_alike) "_law_other" := by first | exact Or.inl (by decide +kernel) | exact Or.inr (Or.inl (by decide +kernel)) | exact Or.inr (Or.inr (by decide +kernel))
theorem lo_law_alike_2 : Loc (defScope s_law_alike) "_law_left" := by first | exact Or.inl (by decide +kernel) | exact Or.inr (by decide +kernel)
theorem lo_law_alike_3 : Loc (defScope s_law_alike) "_law_one" := by first | exact Or.inl (by decide +kernel) | exact Or.inr (by decide +kernel)
theorem lo_law_alike_4 : Loc (defScope s_law_alike) "_law_other" := by first | exact Or.inl (by decide +kernel) | exact Or.inr (by decide +kernel)
theorem ok_law_alike (T : Txt K mg) : FnOk P w K mg base (L2.CX P w) 1 T.a_law_alike T.d_law_alike ["_law_found", "_law_due"] spAlikeT := by
  refine T.F_law_alike.okX sc_law_alike (fun vs H Q E h => ?_) (fun cdv A outer s H vs Q E hr h => ?_)
  · obtain ⟨_, _, _, rfl, _⟩ := h
    rfl
  obtain ⟨dd, v0, w0, rfl, rv, rw', hdh, hsz, q⟩ := h
  refine ⟨_, (pss_cons (ps_set (i := 2) sc_law_alike.nd rfl lo_law_alike_2 (pe_lst (pa_cons (pe_tup (pa_cons (uv 0 (hv := vi_law_alike_0)) (pa_cons (uv 1 (hv := vi_law_alike_1)) pa_nil))) pa_nil)))
      (pss_cons (ps_while (passes_of rfl) (pt_cmpR uo_gt (pe_callB uk_len rfl T.z_len boot_len (pa_cons (uv 2 (hv := vi_law_alike_2)) pa_nil)) pe_int (nomark _)) (pss_cons (ps_asg (pe_bm0 PySem.F.plainAttrs_list PySem.F.slot_list_pop PySem.F.type_list_pop mt_pop (uv 2 (hv := vi_law_alike_2))) (pg_tup rfl (pgs_cons (pg_name (i := 3) sc_law_alike.nd rfl lo_law_alike_3) (pgs_cons (pg_name (i := 4) sc_law_alike.nd rfl lo_law_alike_4) pgs_nil))))
      (pss_one (ps_if (ut (pe_callB uk_is rfl T.z_isinstance boot_isinstance (pa_cons (uv 4 (hv := vi_law_alike_4)) (pa_cons (pe_bltn (v := .ty "tuple") rfl T.z_tuple boot_tuple rfl) pa_nil)))) (pss_cons (ps_if (PW.pt (pw_or (pt_not (ut (pe_callB uk_is rfl T.z_isinstance boot_isinstance (pa_cons (uv 3 (hv := vi_law_alike_3)) (pa_cons (pe_bltn (v := .ty "tuple") rfl T.z_tuple boot_tuple rfl) pa_nil))))) (pw_or1 (pt_cmpR op_ne (pe_callB uk_len rfl T.z_len boot_len (pa_cons (uv 3 (hv := vi_law_alike_3)) pa_nil)) (pe_callB uk_len rfl T.z_len boot_len (pa_cons (uv 4 (hv := vi_law_alike_4)) pa_nil)) (nomark _))))) (pss_one (ps_ret pe_bl)) pss_nil)
      (pss_one (ps_expr (pe_bm PySem.F.plainAttrs_list PySem.F.slot_list_extend PySem.F.type_list_extend mt_extend (uv 2 (hv := vi_law_alike_2)) (pa_cons (pe_listZip rfl rfl T.z_list rfl T.z_zip (pa_cons (uv 3 (hv := vi_law_alike_3)) (pa_cons (uv 4 (hv := vi_law_alike_4)) pa_nil))) pa_nil))))) (pss_one (ps_if (PW.pt (pw_or (ut (pe_callB uk_is rfl T.z_isinstance boot_isinstance (pa_cons (uv 3 (hv := vi_law_alike_3)) (pa_cons (pe_bltn (v := .ty "tuple") rfl T.z_tuple boot_tuple rfl) pa_nil)))) (pw_or1 (pt_cmpR op_ne (pe_callB uk_is rfl T.z_isinstance boot_isinstance (pa_cons (uv 3 (hv := vi_law_alike_3)) (pa_cons (pe_bltn (v := .ty "bool") rfl T.z_bool boot_bool rfl) pa_nil))) (pe_callB uk_is rfl T.z_isinstance boot_isinstance (pa_cons (uv 4 (hv := vi_law_alike_4)) (pa_cons (pe_bltn (v := .ty "bool") rfl T.z_bool boot_bool rfl) pa_nil))) (nomark _))))) (pss_one (ps_ret pe_bl)) (pss_one (ps_if (PW.pt (pw_or (pt_cmpR op_ne (pe_callB uk_is rfl T.z_isinstance boot_isinstance (pa_cons (uv 3 (hv := vi_law_alike_3)) (pa_cons (pe_bltn (v := .ty "int") rfl T.z_int boot_int rfl) pa_nil))) (pe_callB uk_is rfl T.z_isinstance boot_isinstance (pa_cons (uv 4 (hv := vi_law_alike_4)) (pa_cons (pe_bltn (v := .ty "int") rfl T.z_int boot_int rfl) pa_nil))) (nomark _)) (pw_or1 (pt_cmpR op_ne (uv 3 (hv := vi_law_alike_3)) (uv 4 (hv := vi_law_alike_4)) (nomark _))))) (pss_one (ps_ret pe_bl)) pss_nil))))))))
      (pss_one (ps_ret pe_bl)))), ?_⟩
  walk_at "go"
  refine g_new fun a ha => ?_
  walk_at "go"
  refine g_new fun l hl => ?_
  walk_at "go"
  have e0 : Ex H (upd H a (.tup [v0, w0])) := Ex.new ha
  have hl0 : H l = none := e0.free hl
  refine g_while (fun m σ H1 => ∃ o1 o2, σ = [some v0, some w0, some (.ref l), o1, o2] ∧ m ≤ 400000 ∧ Ex H H1 ∧ ∃ ts, H1 l = some (.lst ts) ∧ PrH H H1 m ts) _ ⟨none, none, rfl, by rw [← Nat.zero_add dd.size] at hsz; exact hsz, e0.trans (Ex.new hl), _, upd_same, PrH.snoc .nil ⟨a, v0, w0, rfl, Ex.new hl _ _ upd_same, rv, rw'⟩ hdh⟩ ?_
  rintro m σ H1 ⟨o1, o2, rfl, hm, e, ts, hts, hp⟩
  walk_at "go"
  refine i_d (fun c => g_wn ?_) fun c => ?_
  · cases hp with
    | nil => cases c
    | @snoc n ts d t hp r kh =>
      obtain ⟨a, x, y, rfl, ha, rx, ry⟩ := r
      walk_at "go"
      refine g_pop hts ?_
      have b2 : But l H1 (upd H1 l (.lst ts)) := (But.refl _ _).upd
      have h2 := b2.get hts ha (fun z => nomatch z)
      have e2 : Ex H (upd H1 l (.lst ts)) := e.at_new hl0
      have t2 : Tk H1 (upd H1 l (.lst ts)) := b2.tkl hts
      have l2 : upd H1 l (.lst ts) l = some (.lst ts) := upd_same
      refine g_tup2 h2 ?_
      walk_at "go"
      have szp := d.size_pos
      revert l2 e2 t2
      clear h2 b2
      generalize upd H1 l (.lst ts) = H2
      intro e2 t2 l2
      refine g_isD (ry.ex e2) (kit_tup d) ?_
      walk_at "go"
      refine i_b (fun k => ?_) fun k => ?_
      · obtain ⟨a1, b1, ds, xs, ys, rfl, rfl, rxs, rys, es, hds, ha1, hb1⟩ := D.openT k kh rx ry
        have a3 := e2 _ _ ha1
        have b3 := e2 _ _ hb1
        walk_at "go"
        refine g_isD (rx.ex e2) (kit_tup d) ?_
        rw [k]
        walk_at "go"
        refine i_neI (fun c => absurd (congrArg Int.ofNat (rxs.len2 rys)) c) fun _ => ?_
        walk_at "go"
        refine ⟨a1, b1, xs, ys, rfl, rxs.len2 rys, .inl ⟨sqT a3, sqT b3⟩, fun H4 z t4 e4 hz _ _ hz4 pz => ?_⟩
        have l4 := e4 _ _ l2
        have ln := sizes_len ds
        have ln2 := rxs.len
        have lp := hp.len
        walk_at "go"
        refine g_ext l4 hz4 (by rw [prz_len pz]; omega) ?_
        have b5 : But l H4 (upd H4 l (.lst (ts ++ t4.map V.ref))) := (But.refl _ _).upd
        have z := (PrH.ext rxs rys hds pz (hp.tk (t2.trans e4.tk))).tk (b5.tkl l4)
        walk_at "go"
        exact ⟨_, by omega, _, _, rfl, by omega, (e2.trans e4).at_new hl0, _, upd_same, z⟩
      · walk_at "go"
        refine g_isD (rx.ex e2) (kit_tup d) ?_
        rw [k]
        walk_at "go"
        refine g_isD (rx.ex e2) (kit_bl d) ?_
        walk_at "go"
        refine g_isD (ry.ex e2) (kit_bl d) ?_
        walk_at "go"
        refine g_isD (rx.ex e2) (kit_int d) ?_
        walk_at "go"
        refine g_isD (ry.ex e2) (kit_int d) ?_
        walk_at "go"
        refine g_neD rx ry (hard_flat kh k) ?_
        walk_at "go"
        exact ⟨_, by omega, _, _, rfl, by omega, e2, _, l2, hp.tk t2⟩
  · walk_at "go"
    exact q _ e
theorem vi_maker_table_0 : Vis (defScope s_maker_table) "wood" := by first | exact Or.inl (by decide +kernel) | exact Or.inr (Or.inl (by decide +kernel)) | exact Or.inr (Or.inr (by decide +kernel))
theorem vi_maker_table_2 : Vis (defScope s_maker_table) "found" := by first | exact Or.inl (by decide +kernel) | exact Or.inr (Or.inl (by decide +kernel)) | exact Or.inr (Or.inr (by decide +kernel))
theorem vi_maker_table_3 : Vis (defScope s_maker_table) "number" := by first | exact Or.inl (by decide +kernel) | exact Or.inr (Or.inl (by decide +kernel)) | exact Or.inr (Or.inr (by decide +kernel))
theorem vi_maker_table_5 : Vis (defScope s_maker_table) "makers" := by first | exact Or.inl (by decide +kernel) | exact Or.inr (Or.inl (by decide +kernel)) | exact Or.inr (Or.inr (by decide +kernel))
theorem vi_maker_table_6 : Vis (defScope s_maker_table) "name" := by first | exact Or.inl (by decide +kernel) | exact Or.inr (Or.inl (by decide +kernel)) | exact Or.inr (Or.inr (by decide +kernel))
theorem vi_maker_table_7 : Vis (defScope s_maker_table) "parts" := by first | exact Or.inl (by decide +kernel) | exact Or.inr (Or.inl (by decide +kernel)) | exact Or.inr (Or.inr (by decide +kernel))
theorem lo_maker_table_1 : Loc (defScope s_maker_table) "kinds" := by first | exact Or.inl (by decide +kernel) | exact Or.inr (by decide +kernel)
theorem lo_maker_table_2 : Loc (defScope s_maker_table) "found" := by first | exact Or.inl (by decide +kernel) | exact Or.inr (by decide +kernel)
theorem lo_maker_table_3 : Loc (defScope s_maker_table) "number" := by first | exact Or.inl (by decide +kernel) | exact Or.inr (by decide +kernel)
theorem lo_maker_table_4 : Loc (defScope s_maker_table) "kind" := by first | exact Or.inl (by decide +kernel) | exact Or.inr (by decide +kernel)
theorem lo_maker_table_5 : Loc (defScope s_maker_table) "makers" := by first | exact Or.inl (by decide +kernel) | exact Or.inr (by decide +kernel)
theorem lo_maker_table_6 : Loc (defScope s_maker_table) "name" := by first | exact Or.inl (by decide +kernel) | exact Or.inr (by decide +kernel)
theorem lo_maker_table_7 : Loc (defScope s_maker_table) "parts" := by first | exact Or.inl (by decide +kernel) | exact Or.inr (by decide +kernel)
theorem ok_maker_table (T : Txt K mg) : FnOk P w K mg base (L2.CX P w) 2 T.a_maker_table T.d_maker_table ["wood"] spTable := by
  refine T.F_maker_table.okX sc_maker_table (fun vs H Q E h => ?_) (fun cdv A outer s H vs Q E hr h => ?_)
  · obtain ⟨_, _, rfl, _⟩ := h
    rfl
  obtain ⟨wd, v, rfl, rv, pre, q⟩ := h
  refine ⟨_, (pss_cons (ps_set (i := 1) sc_maker_table.nd rfl lo_maker_table_1 (pe_callD (ok_kinds_by_name T) (hr.mono (by decide)) rfl T.m_kinds_by_name T.F_kinds_by_name.kp T.b_kinds_by_name .nil (fun σ => passAt (takes_of rfl rfl rfl rfl) σ) (pa_cons (uv 0 (hv := vi_maker_table_0)) pa_nil)))
      (pss_cons (ps_set (i := 2) sc_maker_table.nd rfl lo_maker_table_2 pe_dnewK)
      (pss_cons (ps_for (passes_of rfl) rfl (ui_enum rfl T.z_enumerate (pa_cons (uv 0 (hv := vi_maker_table_0)) pa_nil)) (pg_tup rfl (pgs_cons (pg_name (i := 3) sc_maker_table.nd rfl lo_maker_table_3) (pgs_cons (pg_tup rfl (pgs_cons (pg_name (i := 4) sc_maker_table.nd rfl lo_maker_table_4) (pgs_cons (pg_name (i := 5) sc_maker_table.nd rfl lo_maker_table_5) pgs_nil))) pgs_nil))) (pss_one (ps_for (passes_of rfl) rfl (ui_seq (uv 5 (hv := vi_maker_table_5))) (pg_tup rfl (pgs_cons (pg_name (i := 6) sc_maker_table.nd rfl lo_maker_table_6) (pgs_cons (pg_name (i := 7) sc_maker_table.nd rfl lo_maker_table_7) pgs_nil))) (pss_one (ps_dput (hu_of hr) (uv 2 (hv := vi_maker_table_2)) (uv 6 (hv := vi_maker_table_6)) (pe_tup (pa_cons (uv 3 (hv := vi_maker_table_3)) (pa_cons (pe_callTy uk_tup rfl T.z_tuple boot_tuple (pa_cons (pe_lc (own := [("part", 8)]) (g := gName 8) rfl sc_maker_table.nd (ui_seq (uv 7 (hv := vi_maker_table_7))) (blkOk_by (own := [("part", 8)]) (N := N_maker_table) (sc := defScope s_maker_table) (by decide +kernel)) (fun _ _ _ _ _ => (pg_name (i := 8) sc_maker_table.nd rfl (by first | exact Or.inl rfl | exact Or.inr rfl))) (fun _ _ _ _ _ => pts_nil) (fun _ _ _ _ _ => (pe_dget (hu_of hr) (uv 1) (uv 8) (fun _ _ => rfl)))) pa_nil)) pa_nil))) rfl)))))
      (pss_one (ps_ret (uv 2 (hv := vi_maker_table_2))))))), ?_⟩
  obtain ⟨a, xs, rfl, ha, rs⟩ := id rv.tupI
  have lx : xs.length = wd.length := by rw [rs.len, List.length_map]
  have pw := pre.wide
  have pm := pre.many
  walk_at "go"
  refine ⟨wd, _, rfl, rv, pre.wide, fun dk H1 _ e1 hk => ?_⟩
  walk_at "go"
  refine fun d hd => ?_
  have e2 := e1.trans (Ex.new (o := .dK []) hd)
  have k2 := Ex.new (o := .dK []) hd _ _ hk
  have nkd : dk ≠ d := fun z => by rw [z, hd] at hk; cases hk
  walk_at "go"
  refine g_enT ?_
  walk_at "go"
  refine ⟨_, xs, rfl, sqT (e2 _ _ ha), ?_⟩
  refine for_it walk_enumT (fun i σ H2 => (∃ o3 o4 o5 o6 o7 o8, σ = [some (.ref a), some (.ref dk), some (.ref d), o3, o4, o5, o6, o7, o8]) ∧ Ex H1 H2 ∧ ∃ kvs, H2 d = some (.dK kvs) ∧ TabOk wd H2 kvs (tabFrom 0 (wd.take i))) ⟨⟨none, none, none, none, none, none, rfl⟩, Ex.new hd, [], upd_same, Nat.le_refl _, fun e z => by cases z⟩ (fun i σ H2 _ h => sqT ((e1.trans h.2.1) _ _ ha)) ?_ ?_
  · rintro i x σ H2 H2' hi ⟨⟨o3, o4, o5, o6, o7, o8, rfl⟩, e3, kvs, hkv, hT⟩ ⟨t, y, z, rfl, ht, rfl, ey, ez⟩
    cases ey
    obtain ⟨kd, b, c, ys, ek, rfl, hb, hc, ry⟩ := wood_at rs ez
    have ly : ys.length = kd.2.length := by rw [ry.len, List.length_map]
    have e4 := Ex.new (o := .tup [.int (i : Nat), .ref b]) ht
    refine g_tup2 upd_same ?_
    walk_at "go"
    have e13 := e1.trans (e3.trans e4)
    have e33 := e3.trans e4
    refine g_tup2 (e13 _ _ hb) ?_
    walk_at "go"
    refine g_seqTs ?_
    walk_at "go"
    refine ⟨_, rfl, ⟨ys, sqT (e13 _ _ hc)⟩, ?_⟩
    have sp := tab_split wd 0 i kd ek
    rw [Nat.zero_add] at sp
    have ndd := pre.nd
    rw [sp] at ndd
    have nm2 := pm
    rw [sp, List.length_append, List.length_append, List.length_map] at nm2
    refine for_it walk_tup (fun j σ H3 => (∃ o6 o7 o8, σ = [some (.ref a), some (.ref dk), some (.ref d), some (.int (i : Nat)), some (.str kd.1), some (.ref c), o6, o7, o8]) ∧ Ex H1 H3 ∧ ∃ kvs, H3 d = some (.dK kvs) ∧ TabOk wd H3 kvs (tabFrom 0 (wd.take i) ++ (kd.2.take j).map fun m => (i, m))) ⟨⟨_, _, _, rfl⟩, e33, kvs, e4 _ _ hkv, by rw [List.take_zero, List.map_nil, List.append_nil]; exact hT.tk e4.tk⟩ (fun j σ H3 _ h => sqT ((e1.trans h.2.1) _ _ hc)) ?_ ?_
    · rintro j x σ H3 H3' hj ⟨⟨o6, o7, o8, rfl⟩, e5, kvs, hkv, hT⟩ ⟨rfl, hx⟩
      obtain ⟨m, b2, c2, em, rfl, hb2, hc2⟩ := mk_at ry hx
      have e15 := e1.trans e5
      refine g_tup2 (e15 _ _ hb2) ?_
      walk_at "go"
      refine g_seqTs ?_
      walk_at "go"
      have hm := pre.parts kd (List.mem_of_getElem? ek) m (List.mem_of_getElem? em)
      refine ⟨_, rfl, ⟨_, sqT (e15 _ _ hc2)⟩, fun D hD => ?_⟩
      refine lc_mapE walk_tup (fun u _ v => ∃ s, m.2[u]? = some s ∧ v = .int (kno wd s)) (by rw [List.length_map]; omega) hD (fun _ _ _ _ _ r => r) (fun H4 e => sqT (e _ _ (e15 _ _ hc2))) ?_ ?_
      · rintro u y H4 H5 P N hu e ⟨rfl, hy⟩ k
        rw [List.getElem?_map] at hy
        cases es : m.2[u]? with
        | none => rw [es] at hy; cases hy
        | some s =>
          rw [es] at hy
          cases hy
          walk_at "go"
          refine ⟨rfl, ?_⟩
          walk_at "go"
          refine g_dgS (e _ _ (e5 _ _ hk)) (kno_get (hm.1 s (List.mem_of_getElem? es))) ?_
          exact k _ _ (Ex.refl _) ⟨s, es, rfl⟩
      · intro H4 acc e6 hacc hla hr2
        have ea : acc = m.2.map fun s => V.int (kno wd s) := by
          refine List.ext_getElem? fun u => ?_
          cases h : acc[u]? with
          | none =>
            have := List.getElem?_eq_none_iff.1 h
            symm
            rw [List.getElem?_eq_none_iff, List.length_map]
            rw [List.length_map] at hla
            omega
          | some v =>
            obtain ⟨s, es, rfl⟩ := hr2 u v h
            rw [List.getElem?_map, es]
            rfl
        subst ea
        walk_at "go"
        refine g_tupOf hacc fun t2 ht2 => ?_
        walk_at "go"
        refine g_new fun t3 ht3 => ?_
        walk_at "go"
        have e7 := (Ex.new (o := .tup (m.2.map fun s => V.int (kno wd s))) ht2).trans (Ex.new (o := .tup [.int (i : Nat), .ref t2]) ht3)
        have a3 := @upd_same (upd H4 t2 (.tup (m.2.map fun s => V.int (kno wd s)))) t3 (.tup [.int (i : Nat), .ref t2])
        have a2 := Ex.new (o := .tup [.int (i : Nat), .ref t2]) ht3 _ _ (@upd_same H4 t2 (.tup (m.2.map fun s => V.int (kno wd s))))
        revert e7 a3 a2
        generalize upd (upd H4 t2 (.tup (m.2.map fun s => V.int (kno wd s)))) t3 (.tup [.int (i : Nat), .ref t2]) = H6
        intro e7 a3 a2
        have hd6 := e7 _ _ (e6 _ _ hkv)
        have hjl : j < kd.2.length := by omega
        have lT := hT.1
        rw [List.length_append, List.length_map, List.length_take] at lT
        refine g_dpS hd6 (by omega) ?_
        have tk : Tk H6 (upd H6 d (.dK (putK kvs (.inr m.1) (.ref t3)))) := ((But.refl d H6).upd).tk hd6 fun _ z => nomatch z
        have hnew : (i, m).2.1 ∉ (tabFrom 0 (wd.take i) ++ (kd.2.take j).map fun m => (i, m)).map fun e => e.2.1 := by
          intro z
          have e8 : kd.2 = kd.2.take j ++ m :: kd.2.drop (j + 1) := by
            have := List.getElem?_eq_some_iff.1 em
            obtain ⟨h1, h2⟩ := this
            rw [← h2, List.getElem_cons_drop, List.take_append_drop]
          rw [e8] at ndd
          simp only [List.map_append, List.map_cons, List.map_map] at ndd z
          have n1 := (List.nodup_append.1 ndd).1
          rw [← List.append_assoc] at n1
          exact (List.nodup_append.1 n1).2.2 _ z _ List.mem_cons_self rfl
        have fin := ((hT.tk (e6.trans e7).tk).put (e := (i, m)) hnew a3 a2).tk tk
        have ej : tabFrom 0 (wd.take i) ++ (kd.2.take j).map (fun m => (i, m)) ++ [(i, m)] = tabFrom 0 (wd.take i) ++ (kd.2.take (j + 1)).map fun m => (i, m) := by
          rw [List.take_add_one, em, List.map_append, List.append_assoc]
          rfl
        rw [ej] at fin
        exact ⟨⟨_, _, _, rfl⟩, (e5.trans (e6.trans e7)).at_new hd, _, upd_same, fin⟩
    · rintro σ H3 ⟨⟨o6, o7, o8, rfl⟩, e5, kvs, hkv, hT⟩
      rw [ly, List.take_length] at hT
      have tt := tab_take wd 0 i kd ek
      rw [Nat.zero_add] at tt
      exact ⟨⟨_, _, _, _, _, _, rfl⟩, e5, kvs, hkv, by rw [tt]; exact hT⟩
  · rintro σ H2 ⟨⟨o3, o4, o5, o6, o7, o8, rfl⟩, e3, kvs, hkv, hT⟩
    rw [lx, List.take_length] at hT
    walk_at "go"
    exact q _ _ _ (e1.trans e3) hkv hT
theorem vi_term_text_0 : Vis (defScope s_term_text) "term" := by first | exact Or.inl (by decide +kernel) | exact Or.inr (Or.inl (by decide +kernel)) | exact Or.inr (Or.inr (by decide +kernel))
theorem vi_term_text_1 : Vis (defScope s_term_text) "number" := by first | exact Or.inl (by decide +kernel) | exact Or.inr (Or.inl (by decide +kernel)) | exact Or.inr (Or.inr (by decide +kernel))
theorem vi_term_text_2 : Vis (defScope s_term_text) "boxes" := by first | exact Or.inl (by decide +kernel) | exact Or.inr (Or.inl (by decide +kernel)) | exact Or.inr (Or.inr (by decide +kernel))
theorem lo_term_text_1 : Loc (defScope s_term_text) "number" := by first | exact Or.inl (by decide +kernel) | exact Or.inr (by decide +kernel)
theorem lo_term_text_2 : Loc (defScope s_term_text) "boxes" := by first | exact Or.inl (by decide +kernel) | exact Or.inr (by decide +kernel)
theorem ok_term_text (T : Txt K mg) : FnOk P w K mg base (L2.CX P w) 2 T.a_term_text T.d_term_text ["term"] spTermT := by
  refine T.F_term_text.okX sc_term_text (fun vs H Q E h => ?_) (fun cdv A outer s H vs Q E hr h => ?_)
  · obtain ⟨_, _, rfl, _⟩ := h
    rfl
  obtain ⟨t, v, rfl, rt, hl, b1, b2, hb, q⟩ := h
  refine ⟨_, (pss_cons (ps_asg (uv 0 (hv := vi_term_text_0)) (pg_tup rfl (pgs_cons (pg_name (i := 1) sc_term_text.nd rfl lo_term_text_1) (pgs_cons (pg_name (i := 2) sc_term_text.nd rfl lo_term_text_2) pgs_nil))))
      (pss_one (ps_ret (pe_op uo_add (pe_callD (ok_show_fraction T) (hr.mono (by decide)) rfl T.m_show_fraction T.F_show_fraction.kp T.b_show_fraction .nil (fun σ => passAt (takes_of rfl rfl rfl rfl) σ) (pa_cons (uv 1 (hv := vi_term_text_1)) pa_nil)) (pe_join pe_str (pe_lc (own := [("part", 3), ("box", 4)]) (g := gTup K 2 (gCons (gName 3) (gCons (gName 4) gNil))) rfl sc_term_text.nd (ui_enum rfl T.z_enumerate (pa_cons (uv 2 (hv := vi_term_text_2)) pa_nil)) (blkOk_by (own := [("part", 3), ("box", 4)]) (N := N_term_text) (sc := defScope s_term_text) (by decide +kernel)) (fun _ _ _ _ _ => (pg_tup rfl (pgs_cons (pg_name (i := 3) sc_term_text.nd rfl (by first | exact Or.inl rfl | exact Or.inr rfl)) (pgs_cons (pg_name (i := 4) sc_term_text.nd rfl (by first | exact Or.inl rfl | exact Or.inr rfl)) pgs_nil)))) (fun _ _ _ _ _ => (pts_one (pt_cmpR uo_notN (uv 4) pe_non (nomark _)))) (fun _ _ _ _ _ => (pe_joinU (PJ.cons pe_str (PJ.cons (pe_fmtU (uv 3)) (PJ.cons pe_str (PJ.cons (pe_fmtU (uv 4)) PJ.nil)))))))))))), ?_⟩
  obtain ⟨a, p, c, rfl, ha, hp, hc⟩ := tm_at rt
  walk_at "go"
  refine g_tup2 ha ?_
  walk_at "go"
  refine ⟨p, t.1, rfl, hp, b1.le (by decide), b2.le (by decide), ?_⟩
  walk_at "go"
  refine g_m1 ?_
  walk_at "go"
  refine g_enT ?_
  walk_at "go"
  refine ⟨c, _, rfl, sqT hc, fun D hD => ?_⟩
  refine lc_it walk_enumT (fun j H7 => Ex H H7 ∧ H7 D = some (.lst ((wordsT 0 (t.2.take j)).map fun s => V.str (" " ++ s)))) ⟨Ex.new hD, upd_same⟩ (fun j H7 _ h => sqT (h.1 _ _ hc)) ?_ ?_
  · rintro j y H7 H8 hj ⟨e7, hd⟩ ⟨Tp, x, y, rfl, hTp, rfl, hx, hy⟩
    cases hx
    rw [List.length_map] at hj
    replace hy : (t.2.map bxV)[j]? = some y := hy
    rw [List.getElem?_map, List.getElem?_eq_getElem hj] at hy
    have eb := List.getElem?_eq_getElem hj
    have mb := List.getElem_mem hj
    have ew := wordsT_snoc (t.2.take j) 0 t.2[j]
    rw [← take_at eb, List.length_take, Nat.min_eq_left (Nat.le_of_lt hj), Nat.zero_add] at ew
    have lw := wordsT_len (t.2.take j) 0
    rw [List.length_take] at lw
    revert hy mb ew
    generalize t.2[j] = bo
    intro hy mb ew
    cases hy
    refine g_tup2 upd_same ?_
    walk_at "go"
    refine ⟨rfl, ?_⟩
    cases bo with
    | none =>
      have ev : bxV none = V.non := rfl
      rw [ev]
      walk_at "go"
      refine ⟨e7.trans (Ex.new hTp), ?_⟩
      rw [ew, List.append_nil]
      exact Ex.new hTp _ _ hd
    | some bi =>
      have ev : bxV (some bi) = V.int bi := rfl
      rw [ev]
      have bb := hb bi mb
      have l1 := numT_bits (small_bits (n := j) (by omega))
      have l2 := numT_bits bb
      walk_at "go"
      refine g_jv (by show 0 + 1 ≤ _; decide) ?_
      walk_at "go"
      refine g_fmtI (log_of (small_bits (n := j) (by omega)) (by decide) (by decide)) ?_
      refine g_jv (by rw [app_len]; show 0 + 1 + _ ≤ _; omega) ?_
      walk_at "go"
      refine g_jv (by rw [app_len, app_len]; show 0 + 1 + _ + 1 ≤ _; omega) ?_
      walk_at "go"
      refine g_fmtI (log_of bb (by decide) (by decide)) ?_
      refine g_jv (by rw [app_len, app_len, app_len]; show 0 + 1 + _ + 1 + _ ≤ _; omega) ?_
      walk_at "go"
      rw [wordT_is]
      have k7 := Ex.new (o := .tup [.int (j : Nat), .int bi]) hTp
      refine ⟨_, k7 _ _ hd, Nat.lt_of_le_of_lt (by rw [List.length_map]; omega : _ ≤ 1000) (by decide), (e7.trans k7).at_new hD, ?_⟩
      rw [upd_same, ew, List.map_append]
      rfl
  rintro H7 ⟨e7, hd⟩
  rw [List.length_map, List.take_length] at hd
  have lw := wordsT_len t.2 0
  refine ⟨"", D, (wordsT 0 t.2).map fun s => (" " : Str) ++ s, rfl, rfl, .inl (sqL (by rw [List.map_map]; exact hd)), joinC (b := 201) (fun s hs => ?_) (by rw [List.length_map]; omega) (by decide) (by decide), ?_⟩
  · obtain ⟨x, hx, rfl⟩ := List.mem_map.1 hs
    obtain ⟨k, b, rfl, hk, hbb⟩ := wordsT_in _ _ _ hx
    have := wordT_len (n := k) (by omega) (hb b hbb)
    rw [app_len]
    show 1 + _ ≤ _
    omega
  refine g_addS ?_ ?_
  · have l1 := showFx_len b1 b2
    have l2 := join_len (y := "") (ps := (wordsT 0 t.2).map fun s => (" " : Str) ++ s) (b := 201) fun s hs => by
      obtain ⟨x, hx, rfl⟩ := List.mem_map.1 hs
      obtain ⟨k, b, rfl, hk, hbb⟩ := wordsT_in _ _ _ hx
      have := wordT_len (n := k) (by omega) (hb b hbb)
      rw [app_len]
      show 1 + _ ≤ _
      omega
    rw [List.length_map] at l2
    have l3 : (wordsT 0 t.2).length * (201 + ("" : Str).length) ≤ 10 * 201 := Nat.mul_le_mul (by omega) (by decide)
    omega
  · rw [termT_is]
    exact q _ e7
theorem vi_law_names_0 : Vis (defScope s_law_names) "_law_box_here" := by first | exact Or.inl (by decide +kernel) | exact Or.inr (Or.inl (by decide +kernel)) | exact Or.inr (Or.inr (by decide +kernel))
theorem vi_law_names_1 : Vis (defScope s_law_names) "_law_many" := by first | exact Or.inl (by decide +kernel) | exact Or.inr (Or.inl (by decide +kernel)) | exact Or.inr (Or.inr (by decide +kernel))
theorem vi_law_names_2 : Vis (defScope s_law_names) "_law_letters" := by first | exact Or.inl (by decide +kernel) | exact Or.inr (Or.inl (by decide +kernel)) | exact Or.inr (Or.inr (by decide +kernel))
theorem vi_law_names_3 : Vis (defScope s_law_names) "_law_stem" := by first | exact Or.inl (by decide +kernel) | exact Or.inr (Or.inl (by decide +kernel)) | exact Or.inr (Or.inr (by decide +kernel))
theorem vi_law_names_4 : Vis (defScope s_law_names) "_law_found" := by first | exact Or.inl (by decide +kernel) | exact Or.inr (Or.inl (by decide +kernel)) | exact Or.inr (Or.inr (by decide +kernel))
theorem vi_law_names_6 : Vis (defScope s_law_names) "_law_form" := by first | exact Or.inl (by decide +kernel) | exact Or.inr (Or.inl (by decide +kernel)) | exact Or.inr (Or.inr (by decide +kernel))
theorem vi_law_names_7 : Vis (defScope s_law_names) "_law_at" := by first | exact Or.inl (by decide +kernel) | exact Or.inr (Or.inl (by decide +kernel)) | exact Or.inr (Or.inr (by decide +kernel))
theorem vi_law_names_8 : Vis (defScope s_law_names) "_law_name" := by first | exact Or.inl (by decide +kernel) | exact Or.inr (Or.inl (by decide +kernel)) | exact Or.inr (Or.inr (by decide +kernel))
theorem lo_law_names_2 : Loc (defScope s_law_names) "_law_letters" := by first | exact Or.inl (by decide +kernel) | exact Or.inr (by decide +kernel)
theorem lo_law_names_3 : Loc (defScope s_law_names) "_law_stem" := by first | exact Or.inl (by decide +kernel) | exact Or.inr (by decide +kernel)
theorem lo_law_names_4 : Loc (defScope s_law_names) "_law_found" := by first | exact Or.inl (by decide +kernel) | exact Or.inr (by decide +kernel)
theorem lo_law_names_5 : Loc (defScope s_law_names) "_law_k" := by first | exact Or.inl (by decide +kernel) | exact Or.inr (by decide +kernel)
theorem lo_law_names_8 : Loc (defScope s_law_names) "_law_name" := by first | exact Or.inl (by decide +kernel) | exact Or.inr (by decide +kernel)
theorem ok_law_names (T : Txt K mg) : FnOk P w K mg base (L2.CX P w) 2 T.a_law_names T.d_law_names ["_law_box_here", "_law_many"] spNames := by
  refine T.F_law_names.okX sc_law_names (fun vs H Q E h => ?_) (fun cdv A outer s H vs Q E hr h => ?_)
  · obtain ⟨_, _, rfl, _⟩ := h
    rfl
  obtain ⟨p, many, rfl, hb, hmany, q⟩ := h
  refine ⟨_, (pss_cons (ps_set (i := 2) sc_law_names.nd rfl lo_law_names_2 pe_str)
      (pss_cons (ps_set (i := 3) sc_law_names.nd rfl lo_law_names_3 (pe_join pe_str (pe_lc (own := [("_law_k", 5)]) (g := gName 5) rfl sc_law_names.nd (pi_range1 rfl T.z_range (pa_cons (pe_callD (ok_law_take T) (hr.mono (by decide)) rfl T.m_law_take T.F_law_take.kp T.b_law_take .nil (fun σ => passAt (takes_of rfl rfl rfl rfl) σ) (pa_cons (uv 0 (hv := vi_law_names_0)) (pa_cons pe_int pa_nil))) pa_nil)) (blkOk_by (own := [("_law_k", 5)]) (N := N_law_names) (sc := defScope s_law_names) (by decide +kernel)) (fun _ _ _ _ _ => (pg_name (i := 5) sc_law_names.nd rfl (by first | exact Or.inl rfl | exact Or.inr rfl))) (fun _ _ _ _ _ => pts_nil) (fun _ _ _ _ _ => (pe_ix (show IxR _ (uIx K) from ux_seq) (uv 2) (pe_callD (ok_law_take T) (hr.mono (by decide)) rfl T.m_law_take T.F_law_take.kp T.b_law_take .nil (fun _ => passAt0) (pa_cons (uv 0) (pa_cons pe_int pa_nil))) (fun _ _ => rfl))))))
      (pss_cons (ps_set (i := 4) sc_law_names.nd rfl lo_law_names_4 (pe_lst pa_nil))
      (pss_cons (ps_for (passes_of rfl) rfl (pi_range1 rfl T.z_range (pa_cons (uv 1 (hv := vi_law_names_1)) pa_nil)) (pg_name (i := 5) sc_law_names.nd rfl lo_law_names_5) (pss_cons (ps_par (i := 6) (j := 7) rfl sc_law_names.nd rfl rfl (by decide) rfl rfl (pa_cons (pe_callD (ok_law_take T) (hr.mono (by decide)) rfl T.m_law_take T.F_law_take.kp T.b_law_take .nil (fun σ => passAt (takes_of rfl rfl rfl rfl) σ) (pa_cons (uv 0 (hv := vi_law_names_0)) (pa_cons pe_int pa_nil))) (pa_cons (pe_callD (ok_law_take T) (hr.mono (by decide)) rfl T.m_law_take T.F_law_take.kp T.b_law_take .nil (fun σ => passAt (takes_of rfl rfl rfl rfl) σ) (pa_cons (uv 0 (hv := vi_law_names_0)) (pa_cons (pe_op uo_add (pe_callB uk_len rfl T.z_len boot_len (pa_cons (uv 3 (hv := vi_law_names_3)) pa_nil)) pe_int) pa_nil))) pa_nil)) rfl)
      (pss_cons (ps_set (i := 8) sc_law_names.nd rfl lo_law_names_8 (pe_join pe_str (pe_lc (own := [("_law_j", 9)]) (g := gName 9) rfl sc_law_names.nd (pi_range1 rfl T.z_range (pa_cons (pe_op uo_add pe_int (pe_callD (ok_law_take T) (hr.mono (by decide)) rfl T.m_law_take T.F_law_take.kp T.b_law_take .nil (fun σ => passAt (takes_of rfl rfl rfl rfl) σ) (pa_cons (uv 0 (hv := vi_law_names_0)) (pa_cons pe_int pa_nil)))) pa_nil)) (blkOk_by (own := [("_law_j", 9)]) (N := N_law_names) (sc := defScope s_law_names) (by decide +kernel)) (fun _ _ _ _ _ => (pg_name (i := 9) sc_law_names.nd rfl (by first | exact Or.inl rfl | exact Or.inr rfl))) (fun _ _ _ _ _ => pts_nil) (fun _ _ _ _ _ => (pe_ix (show IxR _ (uIx K) from ux_seq) (uv 2) (pe_callD (ok_law_take T) (hr.mono (by decide)) rfl T.m_law_take T.F_law_take.kp T.b_law_take .nil (fun _ => passAt0) (pa_cons (uv 0) (pa_cons pe_int pa_nil))) (fun _ _ => rfl))))))
      (C8.pss_cut (ps_if (pt_cmpR op_eq (uv 6 (hv := vi_law_names_6)) pe_int (nomark _)) (pss_one (ps_set (i := 8) sc_law_names.nd rfl lo_law_names_8 (pe_op uo_add (pe_op uo_add (pe_slice us_sl (uv 3 (hv := vi_law_names_3)) po_none (po_some (uv 7 (hv := vi_law_names_7)))) (pe_ix ux_seq (uv 8 (hv := vi_law_names_8)) pe_int (fun _ _ => rfl))) (pe_slice us_sl (uv 3 (hv := vi_law_names_3)) (po_some (uv 7 (hv := vi_law_names_7))) po_none)))) pss_nil)
      (C8.pss_cut (ps_if (pt_cmpR op_eq (uv 6 (hv := vi_law_names_6)) pe_int (nomark _)) (pss_one (ps_set (i := 8) sc_law_names.nd rfl lo_law_names_8 (pe_slice us_sl (pe_op uo_add (uv 3 (hv := vi_law_names_3)) (uv 8 (hv := vi_law_names_8))) po_none (po_some pe_int)))) pss_nil)
      (C8.pss_cut (ps_if (pt_cmpR op_eq (uv 6 (hv := vi_law_names_6)) pe_int (nomark _)) (pss_one (ps_set (i := 8) sc_law_names.nd rfl lo_law_names_8 (pe_ix ux_seq (uv 8 (hv := vi_law_names_8)) pe_int (fun _ _ => rfl)))) pss_nil)
      (pss_cons (ps_while (passes_of rfl) (PW.pt (pw_or (pt_cmpR uo_in (uv 8 (hv := vi_law_names_8)) (uv 4 (hv := vi_law_names_4)) rfl) (pw_or1 (pt_cmpR op_eq (uv 8 (hv := vi_law_names_8)) pe_str (nomark _))))) (pss_one (ps_set (i := 8) sc_law_names.nd rfl lo_law_names_8 (pe_op uo_add (pe_ix ux_seq (uv 2 (hv := vi_law_names_2)) (pe_op uo_mod (pe_op uo_add (pe_bmS PySem.F.plainAttrs_str PySem.F.slot_str_index PySem.F.type_str_index (mt_idx rfl) (uv 2 (hv := vi_law_names_2)) (pa_cons (pe_ix ux_seq (uv 8 (hv := vi_law_names_8)) pe_int (fun _ _ => rfl)) pa_nil)) pe_int) pe_int) (fun _ _ => rfl)) (pe_slice us_sl (uv 8 (hv := vi_law_names_8)) (po_some pe_int) po_none)))))
      (pss_one (ps_expr (pe_bm PySem.F.plainAttrs_list PySem.F.slot_list_append PySem.F.type_list_append mt_append (uv 4 (hv := vi_law_names_4)) (pa_cons (uv 8 (hv := vi_law_names_8)) pa_nil)))))))))))
      (pss_one (ps_ret (uv 4 (hv := vi_law_names_4)))))))), ?_⟩
  walk_at "go"
  refine g_m1 ?_
  walk_at "go"
  refine ⟨p, 6, rfl, hb, by decide, by decide, fun n0 H1 n00 n01 b1 hb1 => ?_⟩
  walk_at "go"
  refine ⟨n0, rfl, by omega, by omega, fun D hD => ?_⟩
  refine lc_mapB walk_range p (fun _ _ v => ∃ c, v = V.str ⟨#[c]⟩ ∧ c ∈ lettersS.cps.toList) (by omega) hD hb1 (fun _ _ _ _ _ r => r) (fun _ _ => trivial) ?_ ?_
  · rintro i x H6 H7 P N hi e6 hb6 ⟨rfl, rfl⟩ k
    walk_at "go"
    refine ⟨rfl, ?_⟩
    walk_at "go"
    refine ⟨p, 26, rfl, hb6, by decide, by decide, fun j H8 j0 j1 b8 hb8 => ?_⟩
    walk_at "go"
    obtain ⟨c, ec, hc⟩ := atI_ex (l := lettersS.cps.toList) j0 (by rw [← str_len, letters_len]; omega)
    refine g_ixS (z := lettersS) ec (by rw [letters_len]; decide) ?_
    exact k _ _ b8 hb8 ⟨c, rfl, List.mem_of_getElem? hc⟩
  intro H2 acc e2 hb2 hacc hla hr2
  obtain ⟨cs, rfl, hcl, hcs⟩ := acc_ones hla hr2
  refine ⟨"", D, cs.map one, rfl, rfl, .inl (sqL hacc), joinB (by omega), ?_⟩
  have sl : (Txt.join "" (cs.map one)).length ≤ 5 := by rw [str_len, joinOnes]; omega
  have slow : Low (Txt.join "" (cs.map one)) := fun c hc => by rw [joinOnes] at hc; exact hcs c hc
  generalize Txt.join "" (cs.map one) = stem at sl slow
  have b02 := b1.trans e2
  clear hr2 hla hacc hcl hcs hb1 e2
  walk_at "go"
  refine g_new fun l hl => ?_
  walk_at "go"
  have nl := hb2.ne hl
  have hl0 : H l = none := by
    cases c : H l with
    | none => rfl
    | some o => rw [b02 _ _ nl c] at hl; cases hl
  refine ⟨_, rfl, by omega, by omega, ?_⟩
  rw [Int.toNat_natCast]
  refine for_it walk_range (fun i σ H3 => (∃ o5 o6 o7 o8, σ = [some (.ref p), some (.int (many : Nat)), some (.str lettersS), some (.str stem), some (.ref l), o5, o6, o7, o8, none]) ∧ But p H H3 ∧ Box H3 p ∧ ∃ ss : List Str, H3 l = some (.lst (ss.map V.str)) ∧ ss.length = i ∧ (∀ s ∈ ss, isName s = true) ∧ ss.Nodup) ⟨⟨none, none, none, none, rfl⟩, b02.at_new hl0, hb2.at_upd nl, [], upd_same, rfl, fun s z => (nomatch z), List.nodup_nil⟩ (fun _ _ _ _ _ => trivial) ?_ ?_
  · rintro i x σ H3 H3' hi ⟨⟨o5, o6, o7, o8, rfl⟩, b3, hb3, ss, hss, hsl, hsn, hsd⟩ ⟨rfl, rfl⟩
    walk_at "go"
    refine ⟨p, 4, rfl, hb3, by decide, by decide, fun form H4 f0 f1 b4 hb4 => ?_⟩
    walk_at "go"
    refine g_lenStr (by omega) ?_
    walk_at "go"
    refine ⟨p, _, rfl, hb4, by omega, Nat.lt_of_lt_of_le (Bits.log (n := 10) (show ((stem.length : Nat) + 1 : Int).natAbs < 2 ^ 10 by omega)) (by decide), fun pos H5 p0 p1 b5 hb5 => ?_⟩
    walk_at "go"
    refine g_m1 ?_
    walk_at "go"
    refine ⟨p, 6, rfl, hb5, by decide, by decide, fun n2 H6 n20 n21 b6 hb6 => ?_⟩
    walk_at "go"
    refine ⟨_, rfl, by omega, by omega, fun D2 hD2 => ?_⟩
    refine lc_mapB walk_range p (fun _ _ v => ∃ c, v = V.str ⟨#[c]⟩ ∧ c ∈ lettersS.cps.toList) (by omega) hD2 hb6 (fun _ _ _ _ _ r => r) (fun _ _ => trivial) ?_ ?_
    · rintro i2 x H7 H8 P N hi2 e7 hb7 ⟨rfl, rfl⟩ k
      walk_at "go"
      refine ⟨rfl, ?_⟩
      walk_at "go"
      refine ⟨p, 26, rfl, hb7, by decide, by decide, fun j H9 j0 j1 b9 hb9 => ?_⟩
      walk_at "go"
      obtain ⟨c, ec, hc⟩ := atI_ex (l := lettersS.cps.toList) j0 (by rw [← str_len, letters_len]; omega)
      refine g_ixS (z := lettersS) ec (by rw [letters_len]; decide) ?_
      exact k _ _ b9 hb9 ⟨c, rfl, List.mem_of_getElem? hc⟩
    intro H7 acc e7 hb7 hacc hla hr2
    obtain ⟨cs, rfl, hcl, hcs⟩ := acc_ones hla hr2
    refine ⟨"", D2, cs.map one, rfl, rfl, .inl (sqL hacc), joinB (by omega), ?_⟩
    have nl1 : 1 ≤ (Txt.join "" (cs.map one)).length := by rw [str_len, joinOnes]; omega
    have nl6 : (Txt.join "" (cs.map one)).length ≤ 6 := by rw [str_len, joinOnes]; omega
    have nlow : Low (Txt.join "" (cs.map one)) := fun c hc => by rw [joinOnes] at hc; exact hcs c hc
    generalize Txt.join "" (cs.map one) = nm at nl1 nl6 nlow
    have b37 := ((b4.trans b5).trans b6).trans e7
    have ss7 : H7 l = some (.lst (ss.map V.str)) := b37 _ _ nl hss
    clear hr2 hla hacc hcl hcs e7 hb4 hb5 hb6 b4 b5 b6
    obtain ⟨at', rfl⟩ := Int.eq_ofNat_of_zero_le p0
    have at_le : at' ≤ stem.length := by omega
    walk_at "go"
    refine ⟨fun σ' H' => H' = H7 ∧ ∃ nm : Str, Low nm ∧ 1 ≤ nm.length ∧ nm.length ≤ 6 ∧ σ' = [some (.ref p), some (.int (many : Nat)), some (.str lettersS), some (.str stem), some (.ref l), some (.int (0 + (i : Int))), some (.int form), some (.int (at' : Nat)), some (.str nm), none], ?_, ?_⟩
    · walk_at "go"
      refine i_eqI (fun c => ?_) fun c => ?_
      · walk_at "go"
        refine g_slS (by omega) ?_
        walk_at "go"
        obtain ⟨d, ed, hd⟩ := atI_ex (l := nm.cps.toList) (j := 0) (by decide) (by rw [← str_len]; omega)
        have l1 : (cutS stem none (some (at' : Int))).length = min at' stem.length := cut_to_len _ _
        have l2 : (cutS stem (some (at' : Int)) none).length = stem.length - at' := by rw [str_len, cut_from at_le, List.length_drop, ← str_len]
        have l3 : (⟨#[d]⟩ : Str).length = 1 := rfl
        refine g_ixS ed (by omega) ?_
        walk_at "go"
        refine g_addS (by omega) ?_
        walk_at "go"
        refine g_slS (by omega) ?_
        walk_at "go"
        have l4 := app_len (cutS stem none (some (at' : Int))) ⟨#[d]⟩
        have l5 := app_len (cutS stem none (some (at' : Int)) ++ ⟨#[d]⟩) (cutS stem (some (at' : Int)) none)
        refine g_addS (by omega) ?_
        walk_at "go"
        have dl : Low ⟨#[d]⟩ := fun c hc => by
          have : c = d := by simpa using hc
          rw [this]
          exact nlow d (List.mem_of_getElem? hd)
        exact ⟨rfl, _, (slow.cut.app dl).app slow.cut, by omega, by omega, rfl⟩
      · walk_at "go"
        exact ⟨rfl, nm, nlow, nl1, nl6, rfl⟩
    clear nlow nl1 nl6
    rintro σ' H' ⟨rfl, nm, nlow, nl1, nl6, rfl⟩
    refine ⟨fun σ' H'' => H'' = H' ∧ ∃ nm : Str, Low nm ∧ 1 ≤ nm.length ∧ nm.length ≤ 6 ∧ σ' = [some (.ref p), some (.int (many : Nat)), some (.str lettersS), some (.str stem), some (.ref l), some (.int (0 + (i : Int))), some (.int form), some (.int (at' : Nat)), some (.str nm), none], ?_, ?_⟩
    · walk_at "go"
      refine i_eqI (fun c => ?_) fun c => ?_
      · walk_at "go"
        have l4 := app_len stem nm
        refine g_addS (by omega) ?_
        walk_at "go"
        refine g_slS (by omega) ?_
        walk_at "go"
        have l1 : (cutS (stem ++ nm) none (some 6)).length = min 6 (stem ++ nm).length := cut_to_len (stem ++ nm) 6
        exact ⟨rfl, _, (slow.app nlow).cut, by omega, by omega, rfl⟩
      · walk_at "go"
        exact ⟨rfl, nm, nlow, nl1, nl6, rfl⟩
    clear nlow nl1 nl6
    rintro σ' H'' ⟨rfl, nm, nlow, nl1, nl6, rfl⟩
    refine ⟨fun σ' H' => H' = H'' ∧ ∃ nm : Str, Low nm ∧ 1 ≤ nm.length ∧ nm.length ≤ 6 ∧ σ' = [some (.ref p), some (.int (many : Nat)), some (.str lettersS), some (.str stem), some (.ref l), some (.int (0 + (i : Int))), some (.int form), some (.int (at' : Nat)), some (.str nm), none], ?_, ?_⟩
    · walk_at "go"
      refine i_eqI (fun c => ?_) fun c => ?_
      · walk_at "go"
        obtain ⟨d, ed, hd⟩ := atI_ex (l := nm.cps.toList) (j := 0) (by decide) (by rw [← str_len]; omega)
        refine g_ixS ed (by omega) ?_
        walk_at "go"
        have dl : Low ⟨#[d]⟩ := fun c hc => by
          have : c = d := by simpa using hc
          rw [this]
          exact nlow d (List.mem_of_getElem? hd)
        exact ⟨rfl, _, dl, Nat.le_refl _, (show 1 ≤ 6 by decide), rfl⟩
      · walk_at "go"
        exact ⟨rfl, nm, nlow, nl1, nl6, rfl⟩
    clear nlow nl1 nl6
    rintro σ' H7 ⟨rfl, nm, nlow, nl1, nl6, rfl⟩
    walk_at "go"
    obtain ⟨a, r, rfl⟩ := rot_of nlow nl1
    refine g_while (fun m σ' H' => H' = H7 ∧ ∃ t, σ' = [some (.ref p), some (.int (many : Nat)), some (.str lettersS), some (.str stem), some (.ref l), some (.int (0 + (i : Int))), some (.int form), some (.int (at' : Nat)), some (.str (rot r (a + t))), none] ∧ (∀ u, u < t → rot r (a + u) ∈ (Str.ofString "kind") :: ss) ∧ t ≤ 13 ∧ m = 14 - t) 14 ⟨rfl, 0, rfl, fun u hu => absurd hu (Nat.not_lt_zero u), by decide, rfl⟩ ?_
    rintro m σ' H' ⟨rfl, t, rfl, hF, ht, rfl⟩
    have ln : (rot r (a + t)).length = r.length + 1 := by rw [str_len, rot_list]; rfl
    have ln0 : (rot r a).length = r.length + 1 := by rw [str_len, rot_list]; rfl
    walk_at "go"
    refine g_inL ss7 ?_
    walk_at "go"
    refine i_d (fun c => ?_) fun c => ?_
    · have hmem : rot r (a + t) ∈ (Str.ofString "kind") :: ss := List.mem_cons_of_mem _ c
      walk_at "go"
      refine g_wn ?_
      walk_at "go"
      refine g_ixS (z := rot r (a + t)) (c := 97 + (a + t) % 26) (atI_nat (j := 0) rfl) (by omega) ?_
      walk_at "go"
      refine g_idx (letters_index ⟨(a + t) % 26, Nat.mod_lt _ (by decide)⟩) ?_
      walk_at "go"
      have em : ((((a + t) % 26 : Nat) : Int) + 1).fmod 26 = (((a + (t + 1)) % 26 : Nat) : Int) := by
        rw [Int.fmod_eq_emod_of_nonneg _ (by decide)]
        omega
      rw [em]
      refine g_ixS (z := lettersS) (atI_nat (letters_at (Nat.mod_lt _ (by decide)))) (by rw [letters_len]; decide) ?_
      walk_at "go"
      refine g_slS (by omega) ?_
      walk_at "go"
      have c1 : (cutS (rot r (a + t)) (some 1) none).cps.toList = (rot r (a + t)).cps.toList.drop 1 := cut_from (a := 1) (by omega)
      have c2 : (cutS (rot r (a + t)) (some 1) none).length = (rot r (a + t)).length - 1 := by rw [str_len, c1, List.length_drop, ← str_len]
      have c3 : (⟨#[97 + (a + (t + 1)) % 26]⟩ : Str).length = 1 := rfl
      refine g_addS (by omega) ?_
      walk_at "go"
      have hrot : (⟨#[97 + (a + (t + 1)) % 26]⟩ : Str) ++ cutS (rot r (a + t)) (some 1) none = rot r (a + (t + 1)) := str_ext (by rw [app_list, c1, rot_list, rot_list]; rfl)
      rw [hrot]
      have fb := rot_bound (r := r) (a := a) (t := t) (F := (Str.ofString "kind") :: ss) (by omega) fun u hu => by
        by_cases e : u = t
        · rw [e]
          exact hmem
        · exact hF u (by omega)
      rw [List.length_cons] at fb
      exact ⟨14 - (t + 1), by omega, rfl, t + 1, rfl, fun u hu => by
        by_cases e : u = t
        · rw [e]
          exact hmem
        · exact hF u (by omega), by omega, rfl⟩
    · walk_at "go"
      refine i_eqS (fun c4 => ?_) fun c4 => ?_
      · have hmem : rot r (a + t) ∈ (Str.ofString "kind") :: ss := by rw [c4]; exact List.mem_cons_self
        walk_at "go"
        refine g_wn ?_
        walk_at "go"
        refine g_ixS (z := rot r (a + t)) (c := 97 + (a + t) % 26) (atI_nat (j := 0) rfl) (by omega) ?_
        walk_at "go"
        refine g_idx (letters_index ⟨(a + t) % 26, Nat.mod_lt _ (by decide)⟩) ?_
        walk_at "go"
        have em : ((((a + t) % 26 : Nat) : Int) + 1).fmod 26 = (((a + (t + 1)) % 26 : Nat) : Int) := by
          rw [Int.fmod_eq_emod_of_nonneg _ (by decide)]
          omega
        rw [em]
        refine g_ixS (z := lettersS) (atI_nat (letters_at (Nat.mod_lt _ (by decide)))) (by rw [letters_len]; decide) ?_
        walk_at "go"
        refine g_slS (by omega) ?_
        walk_at "go"
        have c1 : (cutS (rot r (a + t)) (some 1) none).cps.toList = (rot r (a + t)).cps.toList.drop 1 := cut_from (a := 1) (by omega)
        have c2 : (cutS (rot r (a + t)) (some 1) none).length = (rot r (a + t)).length - 1 := by rw [str_len, c1, List.length_drop, ← str_len]
        have c3 : (⟨#[97 + (a + (t + 1)) % 26]⟩ : Str).length = 1 := rfl
        refine g_addS (by omega) ?_
        walk_at "go"
        have hrot : (⟨#[97 + (a + (t + 1)) % 26]⟩ : Str) ++ cutS (rot r (a + t)) (some 1) none = rot r (a + (t + 1)) := str_ext (by rw [app_list, c1, rot_list, rot_list]; rfl)
        rw [hrot]
        have fb := rot_bound (r := r) (a := a) (t := t) (F := (Str.ofString "kind") :: ss) (by omega) fun u hu => by
          by_cases e : u = t
          · rw [e]
            exact hmem
          · exact hF u (by omega)
        rw [List.length_cons] at fb
        exact ⟨14 - (t + 1), by omega, rfl, t + 1, rfl, fun u hu => by
          by_cases e : u = t
          · rw [e]
            exact hmem
          · exact hF u (by omega), by omega, rfl⟩
      · walk_at "go"
        have lss : ss.length ≤ 12 := by omega
        refine g_app ss7 (Nat.lt_of_le_of_lt (show (ss.map V.str).length ≤ 1000 by rw [List.length_map]; omega) (by decide)) ?_
        walk_at "go"
        have lowt : Low (rot r (a + t)) := fun x hx => by
          rw [rot_list] at hx
          rcases List.mem_cons.1 hx with rfl | hx
          · exact letters_mem.2 ⟨_, Nat.mod_lt _ (by decide), rfl⟩
          · exact nlow x (by rw [rot_list]; exact List.mem_cons_of_mem _ hx)
        have bl : But p H (upd H' l (.lst (ss.map V.str ++ [V.str (rot r (a + t))]))) := (b3.trans b37).at_new hl0
        refine ⟨⟨_, _, _, _, rfl⟩, bl, hb7.at_upd nl, ss ++ [rot r (a + t)], by rw [upd_same, List.map_append]; rfl, by rw [List.length_append, hsl]; rfl, fun s hs => ?_, ?_⟩
        · rcases List.mem_append.1 hs with hs | hs
          · exact hsn s hs
          · rw [List.mem_singleton.1 hs]
            exact isName_of lowt (by omega) (by omega) c4
        · refine List.nodup_append.2 ⟨hsd, List.nodup_cons.2 ⟨fun z => (nomatch z), List.nodup_nil⟩, fun x hx y hy => ?_⟩
          rw [List.mem_singleton.1 hy]
          exact fun e => c (e ▸ hx)
  · rintro σ H3 ⟨⟨o5, o6, o7, o8, rfl⟩, b3, hb3, ss, hss, hsl, hsn, hsd⟩
    walk_at "go"
    exact q _ ss _ hsl hsn hsd hl0 b3 hb3 hss
theorem vi_law_fraction_0 : Vis (defScope s_law_fraction) "_law_box_here" := by first | exact Or.inl (by decide +kernel) | exact Or.inr (Or.inl (by decide +kernel)) | exact Or.inr (Or.inr (by decide +kernel))
theorem vi_law_fraction_1 : Vis (defScope s_law_fraction) "_law_form" := by first | exact Or.inl (by decide +kernel) | exact Or.inr (Or.inl (by decide +kernel)) | exact Or.inr (Or.inr (by decide +kernel))
theorem vi_law_fraction_2 : Vis (defScope s_law_fraction) "_law_upper" := by first | exact Or.inl (by decide +kernel) | exact Or.inr (Or.inl (by decide +kernel)) | exact Or.inr (Or.inr (by decide +kernel))
theorem vi_law_fraction_3 : Vis (defScope s_law_fraction) "_law_lower" := by first | exact Or.inl (by decide +kernel) | exact Or.inr (Or.inl (by decide +kernel)) | exact Or.inr (Or.inr (by decide +kernel))
theorem vi_law_fraction_4 : Vis (defScope s_law_fraction) "_law_part" := by first | exact Or.inl (by decide +kernel) | exact Or.inr (Or.inl (by decide +kernel)) | exact Or.inr (Or.inr (by decide +kernel))
theorem lo_law_fraction_1 : Loc (defScope s_law_fraction) "_law_form" := by first | exact Or.inl (by decide +kernel) | exact Or.inr (by decide +kernel)
theorem lo_law_fraction_2 : Loc (defScope s_law_fraction) "_law_upper" := by first | exact Or.inl (by decide +kernel) | exact Or.inr (by decide +kernel)
theorem lo_law_fraction_3 : Loc (defScope s_law_fraction) "_law_lower" := by first | exact Or.inl (by decide +kernel) | exact Or.inr (by decide +kernel)
theorem lo_law_fraction_4 : Loc (defScope s_law_fraction) "_law_part" := by first | exact Or.inl (by decide +kernel) | exact Or.inr (by decide +kernel)
theorem ok_law_fraction (T : Txt K mg) : FnOk P w K mg base (L2.CX P w) 2 T.a_law_fraction T.d_law_fraction ["_law_box_here"] spFx := by
  refine T.F_law_fraction.okX sc_law_fraction (fun vs H Q E h => ?_) (fun cdv A outer s H vs Q E hr h => ?_)
  · obtain ⟨_, rfl, _⟩ := h
    rfl
  obtain ⟨p, rfl, hb, q⟩ := h
  refine ⟨_, (pss_cons (ps_set (i := 1) sc_law_fraction.nd rfl lo_law_fraction_1 (pe_callD (ok_law_take T) (hr.mono (by decide)) rfl T.m_law_take T.F_law_take.kp T.b_law_take .nil (fun σ => passAt (takes_of rfl rfl rfl rfl) σ) (pa_cons (uv 0 (hv := vi_law_fraction_0)) (pa_cons pe_int pa_nil))))
      (pss_cons (ps_set (i := 2) sc_law_fraction.nd rfl lo_law_fraction_2 (pe_ix ux_seq (pe_lst (pa_cons (pe_op uo_sub (pe_callD (ok_law_take T) (hr.mono (by decide)) rfl T.m_law_take T.F_law_take.kp T.b_law_take .nil (fun σ => passAt (takes_of rfl rfl rfl rfl) σ) (pa_cons (uv 0 (hv := vi_law_fraction_0)) (pa_cons pe_int pa_nil))) pe_int) (pa_cons (pe_op uo_sub (pe_callD (ok_law_take T) (hr.mono (by decide)) rfl T.m_law_take T.F_law_take.kp T.b_law_take .nil (fun σ => passAt (takes_of rfl rfl rfl rfl) σ) (pa_cons (uv 0 (hv := vi_law_fraction_0)) (pa_cons pe_int pa_nil))) pe_int) pa_nil))) (pe_callTy uk_int rfl T.z_int boot_int (pa_cons (pe_cmpR op_eq (uv 1 (hv := vi_law_fraction_1)) pe_int (nomark _)) pa_nil)) (fun _ _ => rfl)))
      (pss_cons (ps_set (i := 3) sc_law_fraction.nd rfl lo_law_fraction_3 (pe_op uo_add pe_int (pe_callD (ok_law_take T) (hr.mono (by decide)) rfl T.m_law_take T.F_law_take.kp T.b_law_take .nil (fun σ => passAt (takes_of rfl rfl rfl rfl) σ) (pa_cons (uv 0 (hv := vi_law_fraction_0)) (pa_cons (pe_ix ux_seq (pe_lst (pa_cons pe_int (pa_cons pe_int (pa_cons pe_int (pa_cons pe_int pa_nil))))) (pe_callD (ok_law_take T) (hr.mono (by decide)) rfl T.m_law_take T.F_law_take.kp T.b_law_take .nil (fun σ => passAt (takes_of rfl rfl rfl rfl) σ) (pa_cons (uv 0 (hv := vi_law_fraction_0)) (pa_cons pe_int pa_nil))) (fun _ _ => rfl)) pa_nil)))))
      (pss_cons (ps_set (i := 4) sc_law_fraction.nd rfl lo_law_fraction_4 (pe_callD (ok_law_shared T) (hr.mono (by decide)) rfl T.m_law_shared T.F_law_shared.kp T.b_law_shared .nil (fun σ => passAt (takes_of rfl rfl rfl rfl) σ) (pa_cons (uv 3 (hv := vi_law_fraction_3)) (pa_cons (pe_callB uk_abs rfl T.z_abs boot_abs (pa_cons (uv 2 (hv := vi_law_fraction_2)) pa_nil)) pa_nil))))
      (pss_one (ps_ret (pe_tup (pa_cons (pe_op uo_fd (uv 2 (hv := vi_law_fraction_2)) (uv 4 (hv := vi_law_fraction_4))) (pa_cons (pe_op uo_fd (uv 3 (hv := vi_law_fraction_3)) (uv 4 (hv := vi_law_fraction_4))) pa_nil))))))))), ?_⟩
  walk_at "go"
  refine ⟨p, 4, rfl, hb, by decide, by decide, fun fo H1 fo0 fo1 b1 hb1 => ?_⟩
  walk_at "go"
  refine ⟨p, 7, rfl, hb1, by decide, by decide, fun x H2 x0 x1 b2 hb2 => ?_⟩
  walk_at "go"
  refine ⟨p, 2001, rfl, hb2, by decide, by decide, fun y H3 y0 y1 b3 hb3 => ?_⟩
  walk_at "go"
  refine g_new fun l1 hl1 => ?_
  walk_at "go"
  have eu : ∃ u : Int, atI [V.int (x - 3), V.int (y - 1000)] (b2z (decide (V.int fo = V.int 0))) = some (.int u) ∧ u.natAbs ≤ 1000 := by
    by_cases c : V.int fo = V.int 0
    · rw [decide_eq_true c]
      exact ⟨_, rfl, by omega⟩
    · rw [decide_eq_false c]
      exact ⟨_, rfl, by omega⟩
  obtain ⟨u, eu, bu⟩ := eu
  have hb3x := hb3.at_upd (o := .lst [.int (x - 3), .int (y - 1000)]) (hb3.ne hl1)
  refine g_ixL upd_same eu ?_
  have b3x := (b3.trans ((Ex.new (o := .lst [.int (x - 3), .int (y - 1000)]) hl1).but p))
  revert hb3x b3x
  generalize upd H3 l1 (.lst [.int (x - 3), .int (y - 1000)]) = H3x
  intro hb3x b3x
  walk_at "go"
  refine g_new fun l2 hl2 => ?_
  walk_at "go"
  have n2 := hb3x.ne hl2
  refine ⟨p, 4, rfl, hb3x.at_upd n2, by decide, by decide, fun z H4 z0 z1 b4 hb4 => ?_⟩
  have l4 := b4 _ _ n2 (@upd_same H3x l2 (.lst [.int 1, .int 1, .int 4, .int 100]))
  have em : ∃ m : Int, atI [V.int 1, .int 1, .int 4, .int 100] z = some (.int m) ∧ 1 ≤ m ∧ m ≤ 100 := by
    have k : z = 0 ∨ z = 1 ∨ z = 2 ∨ z = 3 := by omega
    rcases k with rfl | rfl | rfl | rfl
    · exact ⟨_, rfl, by decide, by decide⟩
    · exact ⟨_, rfl, by decide, by decide⟩
    · exact ⟨_, rfl, by decide, by decide⟩
    · exact ⟨_, rfl, by decide, by decide⟩
  obtain ⟨m, em, m0, m1⟩ := em
  walk_at "go"
  refine g_ixL l4 em ?_
  walk_at "go"
  refine ⟨p, m, rfl, hb4, by omega, Nat.lt_of_lt_of_le (Bits.log (n := 10) (show m.natAbs < 2 ^ 10 by omega)) (by decide), fun w H5 w0 w1 b5 hb5 => ?_⟩
  walk_at "go"
  refine ⟨1 + w, (u.natAbs : Nat), rfl, by omega, by omega, ?_⟩
  rw [gcd_abs]
  obtain ⟨f1, f2, f3, f4⟩ := fx_low (u := u) (l := 1 + w) (by omega)
  have g0 : ((Int.gcd u (1 + w) : Nat) : Int) ≠ 0 := by
    have := Int.gcd_pos_of_ne_zero_right u (show 1 + w ≠ 0 by omega)
    omega
  have gb : Bits 100 ((Int.gcd u (1 + w) : Nat) : Int) := gcd_bits (by omega) (show (1 + w).natAbs < 2 ^ 100 from Nat.lt_of_le_of_lt (by omega : (1 + w).natAbs ≤ 200) (by decide))
  have c1 : CFd u ((Int.gcd u (1 + w) : Nat) : Int) := gb.fd g0
  have c2 : CFd (1 + w) ((Int.gcd u (1 + w) : Nat) : Int) := gb.fd g0
  walk_at "go"
  refine g_new fun t ht => ?_
  exact q t (u.fdiv ((Int.gcd u (1 + w) : Nat) : Int), (1 + w).fdiv ((Int.gcd u (1 + w) : Nat) : Int)) _ upd_same ⟨f1, f2, Nat.le_trans f3 bu, show (1 + w).fdiv ((Int.gcd u (1 + w) : Nat) : Int) ≤ 100 by omega⟩ ((((b1.trans b2).trans b3x).trans ((Ex.new hl2).but p)).trans ((b4.trans b5).trans ((Ex.new ht).but p))) (hb5.at_upd (hb5.ne ht))
theorem vi_law_reader_rows_0 : Vis (defScope s_law_reader_rows) "_law_wood_here" := by first | exact Or.inl (by decide +kernel) | exact Or.inr (Or.inl (by decide +kernel)) | exact Or.inr (Or.inr (by decide +kernel))
theorem vi_law_reader_rows_1 : Vis (defScope s_law_reader_rows) "_law_reader_here" := by first | exact Or.inl (by decide +kernel) | exact Or.inr (Or.inl (by decide +kernel)) | exact Or.inr (Or.inr (by decide +kernel))
theorem vi_law_reader_rows_2 : Vis (defScope s_law_reader_rows) "_law_rows" := by first | exact Or.inl (by decide +kernel) | exact Or.inr (Or.inl (by decide +kernel)) | exact Or.inr (Or.inr (by decide +kernel))
theorem vi_law_reader_rows_3 : Vis (defScope s_law_reader_rows) "_law_maker" := by first | exact Or.inl (by decide +kernel) | exact Or.inr (Or.inl (by decide +kernel)) | exact Or.inr (Or.inr (by decide +kernel))
theorem vi_law_reader_rows_6 : Vis (defScope s_law_reader_rows) "_law_sums" := by first | exact Or.inl (by decide +kernel) | exact Or.inr (Or.inl (by decide +kernel)) | exact Or.inr (Or.inr (by decide +kernel))
theorem vi_law_reader_rows_7 : Vis (defScope s_law_reader_rows) "_law_at" := by first | exact Or.inl (by decide +kernel) | exact Or.inr (Or.inl (by decide +kernel)) | exact Or.inr (Or.inr (by decide +kernel))
theorem vi_law_reader_rows_8 : Vis (defScope s_law_reader_rows) "_law_terms" := by first | exact Or.inl (by decide +kernel) | exact Or.inr (Or.inl (by decide +kernel)) | exact Or.inr (Or.inr (by decide +kernel))
theorem vi_law_reader_rows_9 : Vis (defScope s_law_reader_rows) "_law_some" := by first | exact Or.inl (by decide +kernel) | exact Or.inr (Or.inl (by decide +kernel)) | exact Or.inr (Or.inr (by decide +kernel))
theorem vi_law_reader_rows_10 : Vis (defScope s_law_reader_rows) "_law_number" := by first | exact Or.inl (by decide +kernel) | exact Or.inr (Or.inl (by decide +kernel)) | exact Or.inr (Or.inr (by decide +kernel))
theorem vi_law_reader_rows_11 : Vis (defScope s_law_reader_rows) "_law_boxes" := by first | exact Or.inl (by decide +kernel) | exact Or.inr (Or.inl (by decide +kernel)) | exact Or.inr (Or.inr (by decide +kernel))
theorem vi_law_reader_rows_12 : Vis (defScope s_law_reader_rows) "_law_words" := by first | exact Or.inl (by decide +kernel) | exact Or.inr (Or.inl (by decide +kernel)) | exact Or.inr (Or.inr (by decide +kernel))
theorem vi_law_reader_rows_13 : Vis (defScope s_law_reader_rows) "_law_part" := by first | exact Or.inl (by decide +kernel) | exact Or.inr (Or.inl (by decide +kernel)) | exact Or.inr (Or.inr (by decide +kernel))
theorem vi_law_reader_rows_14 : Vis (defScope s_law_reader_rows) "_law_one" := by first | exact Or.inl (by decide +kernel) | exact Or.inr (Or.inl (by decide +kernel)) | exact Or.inr (Or.inr (by decide +kernel))
theorem vi_law_reader_rows_15 : Vis (defScope s_law_reader_rows) "_law_told" := by first | exact Or.inl (by decide +kernel) | exact Or.inr (Or.inl (by decide +kernel)) | exact Or.inr (Or.inr (by decide +kernel))
theorem lo_law_reader_rows_2 : Loc (defScope s_law_reader_rows) "_law_rows" := by first | exact Or.inl (by decide +kernel) | exact Or.inr (by decide +kernel)
theorem lo_law_reader_rows_3 : Loc (defScope s_law_reader_rows) "_law_maker" := by first | exact Or.inl (by decide +kernel) | exact Or.inr (by decide +kernel)
theorem lo_law_reader_rows_4 : Loc (defScope s_law_reader_rows) "_law_kind" := by first | exact Or.inl (by decide +kernel) | exact Or.inr (by decide +kernel)
theorem lo_law_reader_rows_5 : Loc (defScope s_law_reader_rows) "_law_parts" := by first | exact Or.inl (by decide +kernel) | exact Or.inr (by decide +kernel)
theorem lo_law_reader_rows_6 : Loc (defScope s_law_reader_rows) "_law_sums" := by first | exact Or.inl (by decide +kernel) | exact Or.inr (by decide +kernel)
theorem lo_law_reader_rows_7 : Loc (defScope s_law_reader_rows) "_law_at" := by first | exact Or.inl (by decide +kernel) | exact Or.inr (by decide +kernel)
theorem lo_law_reader_rows_8 : Loc (defScope s_law_reader_rows) "_law_terms" := by first | exact Or.inl (by decide +kernel) | exact Or.inr (by decide +kernel)
theorem lo_law_reader_rows_9 : Loc (defScope s_law_reader_rows) "_law_some" := by first | exact Or.inl (by decide +kernel) | exact Or.inr (by decide +kernel)
theorem lo_law_reader_rows_10 : Loc (defScope s_law_reader_rows) "_law_number" := by first | exact Or.inl (by decide +kernel) | exact Or.inr (by decide +kernel)
theorem lo_law_reader_rows_11 : Loc (defScope s_law_reader_rows) "_law_boxes" := by first | exact Or.inl (by decide +kernel) | exact Or.inr (by decide +kernel)
theorem lo_law_reader_rows_12 : Loc (defScope s_law_reader_rows) "_law_words" := by first | exact Or.inl (by decide +kernel) | exact Or.inr (by decide +kernel)
theorem lo_law_reader_rows_13 : Loc (defScope s_law_reader_rows) "_law_part" := by first | exact Or.inl (by decide +kernel) | exact Or.inr (by decide +kernel)
theorem lo_law_reader_rows_14 : Loc (defScope s_law_reader_rows) "_law_one" := by first | exact Or.inl (by decide +kernel) | exact Or.inr (by decide +kernel)
theorem lo_law_reader_rows_15 : Loc (defScope s_law_reader_rows) "_law_told" := by first | exact Or.inl (by decide +kernel) | exact Or.inr (by decide +kernel)
theorem ok_law_reader_rows (T : Txt K mg) : FnOk P w K mg base (L2.CX P w) 2 T.a_law_reader_rows T.d_law_reader_rows ["_law_wood_here", "_law_reader_here"] spRowsR := by
  refine T.F_law_reader_rows.okX sc_law_reader_rows (fun vs H Q E h => ?_) (fun cdv A outer s H vs Q E hr h => ?_)
  · obtain ⟨_, _, _, _, rfl, _⟩ := h
    rfl
  obtain ⟨wd, r, wv, rv, rfl, rw1, ok, rr, rok, q⟩ := h
  refine ⟨_, (pss_cons (ps_set (i := 2) sc_law_reader_rows.nd rfl lo_law_reader_rows_2 (pe_lst (pa_cons (pe_joinK K pe_str (pe_op (show OpR _ (binaryOp .Add) (uAdd K) from uo_add) (pe_lst (pa_cons pe_str pa_nil)) (pe_lc (own := [("_law_count", 16)]) (g := gName 16) rfl sc_law_reader_rows.nd (show PI _ _ _ (uSeq K _) from (ui_seq (pe_ix (show IxR _ (uIx K) from ux_seq) (uv 1 (hv := vi_law_reader_rows_1)) pe_int (fun _ _ => rfl)))) (blkOk_by (own := [("_law_count", 16)]) (N := N_law_reader_rows) (sc := defScope s_law_reader_rows) (by decide +kernel)) (fun _ _ _ _ _ => (pg_name (i := 16) sc_law_reader_rows.nd rfl (by first | exact Or.inl rfl | exact Or.inr rfl))) (fun _ _ _ _ _ => pts_nil) (fun _ _ _ _ _ => (pe_callTy uk_str rfl T.z_str boot_str (pa_cons (uv 16) pa_nil)))))) pa_nil)))
      (pss_cons (ps_for (passes_of rfl) rfl (show PI _ _ _ (iZipN K _) from (pi_zipN rfl T.z_zip (pa_cons (pe_callD (ok_law_makers T) (hr.mono (by decide)) rfl T.m_law_makers T.F_law_makers.kp T.b_law_makers .nil (fun σ => passAt (takes_of rfl rfl rfl rfl) σ) (pa_cons (uv 0 (hv := vi_law_reader_rows_0)) pa_nil)) (pa_cons (pe_ix (show IxR _ (uIx K) from ux_seq) (uv 1 (hv := vi_law_reader_rows_1)) pe_int (fun _ _ => rfl)) pa_nil)))) (show PG _ _ (gTup K 2 _) from (pg_tup rfl (pgs_cons (show PG _ _ (gTup K 3 _) from (pg_tup rfl (pgs_cons (pg_name (i := 3) sc_law_reader_rows.nd rfl lo_law_reader_rows_3) (pgs_cons (pg_name (i := 4) sc_law_reader_rows.nd rfl lo_law_reader_rows_4) (pgs_cons (pg_name (i := 5) sc_law_reader_rows.nd rfl lo_law_reader_rows_5) pgs_nil))))) (pgs_cons (pg_name (i := 6) sc_law_reader_rows.nd rfl lo_law_reader_rows_6) pgs_nil)))) (pss_one (ps_for (passes_of rfl) rfl (show PI _ _ _ (uEnum K _) from (ui_enum rfl T.z_enumerate (pa_cons (uv 6 (hv := vi_law_reader_rows_6)) pa_nil))) (show PG _ _ (gTup K 2 _) from (pg_tup rfl (pgs_cons (pg_name (i := 7) sc_law_reader_rows.nd rfl lo_law_reader_rows_7) (pgs_cons (pg_name (i := 8) sc_law_reader_rows.nd rfl lo_law_reader_rows_8) pgs_nil)))) (pss_cons (ps_set (i := 9) sc_law_reader_rows.nd rfl lo_law_reader_rows_9 (pe_lst pa_nil))
      (pss_cons (ps_for (passes_of rfl) rfl (show PI _ _ _ (uSeq K _) from (ui_seq (uv 8 (hv := vi_law_reader_rows_8)))) (show PG _ _ (gTup K 2 _) from (pg_tup rfl (pgs_cons (pg_name (i := 10) sc_law_reader_rows.nd rfl lo_law_reader_rows_10) (pgs_cons (pg_name (i := 11) sc_law_reader_rows.nd rfl lo_law_reader_rows_11) pgs_nil)))) (pss_cons (ps_set (i := 12) sc_law_reader_rows.nd rfl lo_law_reader_rows_12 (pe_lst (pa_cons (pe_callD (ok_law_text_of T) (hr.mono (by decide)) rfl T.m_law_text_of T.F_law_text_of.kp T.b_law_text_of .nil (fun σ => passAt (takes_of rfl rfl rfl rfl) σ) (pa_cons (uv 10 (hv := vi_law_reader_rows_10)) pa_nil)) pa_nil)))
      (pss_cons (ps_for (passes_of rfl) rfl (show PI _ _ _ (uEnum K _) from (ui_enum rfl T.z_enumerate (pa_cons (uv 11 (hv := vi_law_reader_rows_11)) pa_nil))) (show PG _ _ (gTup K 2 _) from (pg_tup rfl (pgs_cons (pg_name (i := 13) sc_law_reader_rows.nd rfl lo_law_reader_rows_13) (pgs_cons (pg_name (i := 14) sc_law_reader_rows.nd rfl lo_law_reader_rows_14) pgs_nil)))) (pss_one (ps_expr (show PE _ _ (tBM K "list" _ _ _) from (pe_bm PySem.F.plainAttrs_list PySem.F.slot_list_extend PySem.F.type_list_extend mt_extend (uv 12 (hv := vi_law_reader_rows_12)) (pa_cons (pe_op op_rep (pe_lst (pa_cons (pe_op (show OpR _ (binaryOp .Add) (uAdd K) from uo_add) (pe_op (show OpR _ (binaryOp .Add) (uAdd K) from uo_add) (pe_callTy uk_str rfl T.z_str boot_str (pa_cons (uv 13 (hv := vi_law_reader_rows_13)) pa_nil)) pe_str) (pe_callTy uk_str rfl T.z_str boot_str (pa_cons (uv 14 (hv := vi_law_reader_rows_14)) pa_nil))) pa_nil)) (pe_callTy uk_int rfl T.z_int boot_int (pa_cons (pe_cmpR uo_notN (uv 14 (hv := vi_law_reader_rows_14)) pe_non (nomark _)) pa_nil))) pa_nil))))))
      (pss_one (ps_expr (show PE _ _ (tBM K "list" _ _ _) from (pe_bm PySem.F.plainAttrs_list PySem.F.slot_list_append PySem.F.type_list_append mt_append (uv 9 (hv := vi_law_reader_rows_9)) (pa_cons (pe_joinK K pe_str (uv 12 (hv := vi_law_reader_rows_12))) pa_nil))))))))
      (pss_cons (ps_set (i := 15) sc_law_reader_rows.nd rfl lo_law_reader_rows_15 (pe_op (show OpR _ (binaryOp .Add) (uAdd K) from uo_add) (pe_joinK K pe_str (uv 9 (hv := vi_law_reader_rows_9))) (pe_op op_repS pe_str (pe_callTy uk_int rfl T.z_int boot_int (pa_cons (pe_cmpR (op_eqD hr.units) (uv 9 (hv := vi_law_reader_rows_9)) (pe_lst pa_nil) (nomark _)) pa_nil)))))
      (pss_one (ps_expr (show PE _ _ (tBM K "list" _ _ _) from (pe_bm PySem.F.plainAttrs_list PySem.F.slot_list_append PySem.F.type_list_append mt_append (uv 2 (hv := vi_law_reader_rows_2)) (pa_cons (pe_op (show OpR _ (binaryOp .Add) (uAdd K) from uo_add) (pe_op (show OpR _ (binaryOp .Add) (uAdd K) from uo_add) (pe_op (show OpR _ (binaryOp .Add) (uAdd K) from uo_add) (pe_op (show OpR _ (binaryOp .Add) (uAdd K) from uo_add) (uv 3 (hv := vi_law_reader_rows_3)) pe_str) (pe_callTy uk_str rfl T.z_str boot_str (pa_cons (uv 7 (hv := vi_law_reader_rows_7)) pa_nil))) pe_str) (uv 15 (hv := vi_law_reader_rows_15))) pa_nil)))))))))))
      (pss_one (ps_ret (uv 2 (hv := vi_law_reader_rows_2)))))), ?_⟩
  have tabl := ok.many
  have kds := ok.kinds
  obtain ⟨wv0, wvx, rfl, hwv, rwv⟩ := id rw1.tupI
  obtain ⟨a, c, b, xs, rfl, ha, hc, hbb, rx⟩ := rd_at rr
  have lxs : xs.length = r.2.length := by rw [rx.len, List.length_map]
  have lrl := rok.rules
  have lct := rok.counts
  have cb := rok.cbits
  walk_at "go"
  (try refine g_m1 ?_)
  walk_at "go"
  refine g_new fun h1 hh1 => ?_
  have k1 := Ex.new (o := .lst [.str "reader"]) hh1
  have ah1 := @upd_same H h1 (.lst [.str "reader"])
  have hc1 := k1 _ _ hc
  walk_at "go"
  refine g_seqTs ?_
  walk_at "go"
  refine g_ixT (i := 0) (k1 _ _ ha) rfl ?_
  refine ⟨_, rfl, ⟨_, sqT hc1⟩, fun D hD => ?_⟩
  refine lc_mapE walk_tup (fun i _ v => ∃ x, r.1[i]? = some x ∧ v = .str (numT x)) (by rw [List.length_map]; omega) hD (fun _ _ _ _ _ r => r) (fun _ e => sqT (e _ _ hc1)) ?_ ?_
  · rintro i x H2 H3 P N hi e ⟨rfl, hx⟩ k
    rw [List.getElem?_map] at hx
    cases ex : r.1[i]? with
    | none => rw [ex] at hx; cases hx
    | some x0 =>
    rw [ex] at hx
    cases hx
    walk_at "go"
    refine ⟨rfl, ?_⟩
    walk_at "go"
    refine g_str (log_of (cb x0 (List.mem_of_getElem? ex)) (by decide) (by decide)) ?_
    exact k _ _ (Ex.refl _) ⟨x0, ex, rfl⟩
  intro H2 acc e2 hacc hla hr2
  rw [List.length_map] at hla
  have ea := acc_mapS hla hr2
  have ah2 := e2 _ _ ah1
  rw [ea] at hacc
  walk_at "go"
  refine g_catL ah2 hacc (by rw [List.length_map, List.length_map]; show 1 + _ ≤ _; omega) fun h3 hh3 => ?_
  have k3 := Ex.new (o := .lst ([V.str "reader"] ++ (r.1.map numT).map V.str)) hh3
  walk_at "go"
  refine ⟨" ", h3, "reader" :: r.1.map numT, rfl, rfl, .inl (sqL upd_same), joinC (b := 20) (fun s hs => ?_) (by rw [List.length_cons, List.length_map]; omega) (by decide) (by decide), ?_⟩
  · rcases List.mem_cons.1 hs with rfl | hs
    · decide
    · obtain ⟨x, hx, rfl⟩ := List.mem_map.1 hs
      exact Nat.le_trans (numT_bits (cb x hx)) (by decide)
  have eH3 := k1.trans (e2.trans k3)
  revert eH3
  clear k3 k1
  generalize upd H2 h3 (.lst ([V.str "reader"] ++ (r.1.map numT).map V.str)) = H3
  intro eH3
  walk_at "go"
  refine g_new fun R hR => ?_
  have hRH : H R = none := eH3.free hR
  have k4 := Ex.new (o := .lst [.str (Txt.join " " ("reader" :: r.1.map numT))]) hR
  have eH4 := eH3.trans k4
  have aR := @upd_same H3 R (.lst [.str (Txt.join " " ("reader" :: r.1.map numT))])
  revert eH4 aR
  clear k4
  generalize upd H3 R (.lst [.str (Txt.join " " ("reader" :: r.1.map numT))]) = H4
  intro eH4 aR
  have rw4 := rw1.ex eH4
  have hb4 := eH4 _ _ hbb
  have ha4 := eH4 _ _ ha
  walk_at "go"
  refine ⟨wd, _, rfl, rw4, ok, fun ml H5 us e5 hml hDu => ?_⟩
  have lus := hDu.1
  have hb5 := e5 _ _ hb4
  have aR5 := e5 _ _ aR
  walk_at "go"
  refine g_ixT (i := 1) (e5 _ _ ha4) rfl ?_
  walk_at "go"
  have nml : ml ≠ R := fun z => by
    rw [z, aR5] at hml
    obtain rfl : [V.str (Txt.join " " ("reader" :: r.1.map numT))] = us := by injection hml with hml; injection hml
    obtain ⟨e, _, p1, t1, y, _⟩ := hDu.2 0 _ rfl
    cases y
  have nb : b ≠ R := fun z => by rw [z, hRH] at hbb; cases hbb
  refine ⟨false, true, ml, b, _, _, rfl, sqL hml, sqT hb5, ?_⟩
  refine for_itC (walk_zipS (k1 := false) (k2 := true) (by omega)) (fun i σ H6 => (∃ o3 o4 o5 o6 o7 o8 o9 o10 o11 o12 o13 o14 o15, σ = [some (.ref wv0), some (.ref a), some (.ref R), o3, o4, o5, o6, o7, o8, o9, o10, o11, o12, o13, o14, o15, none]) ∧ But R H5 H6 ∧ H6 R = some (.lst ((rowsTo wd r i).map V.str))) ⟨⟨_, _, _, _, _, _, _, _, _, _, _, _, _, rfl⟩, But.refl _ _, aR5⟩ (fun i σ H6 _ h => ⟨sqL (h.2.1 _ _ nml hml), sqT (h.2.1 _ _ nb hb5)⟩) ?_ ?_
  · rintro RT BK i x σ H6 H6' hi ⟨⟨o3, o4, o5, o6, o7, o8, o9, o10, o11, o12, o13, o14, o15, rfl⟩, bt, hR6⟩ ⟨Tp, x, y, rfl, hTp, rfl, hx, hy⟩
    replace hx : us[i]? = some x := hx
    replace hy : xs[i]? = some y := hy
    have hi2 : i < (tabFrom 0 wd).length := by omega
    obtain ⟨e, et, p1, t1, rfl, hp1, ht1⟩ := hDu.2 i x hx
    have ex := List.getElem?_eq_getElem (l := r.2) (i := i) (by omega)
    have RL := rok.rll ok et ex
    have step := rowsTo_step et ex
    have rlen := rowsTo_len ok rok i (by omega)
    revert ex RL step
    generalize r.2[i] = rl0
    intro ex RL step
    obtain ⟨Rm, Rs⟩ := RL
    obtain ⟨dd, hdd, rd⟩ := rx.get hy
    rw [List.getElem?_map, ex] at hdd
    cases hdd
    obtain ⟨sa, svs, rfl, hsa, rsv⟩ := id (Rep.tupI rd)
    have lsv : svs.length = rl0.length := by rw [rsv.len, List.length_map]
    have k7 := Ex.new (o := .tup [.ref p1, .ref sa]) hTp
    have nsa : sa ≠ R := fun z => by rw [z, hRH] at hsa; cases hsa
    have np1 : p1 ≠ R := fun z => by rw [z, aR5] at hp1; cases hp1
    have hsa6 := bt _ _ nsa (e5 _ _ (eH4 _ _ hsa))
    have hp6 := bt _ _ np1 hp1
    refine g_tup2 upd_same ?_
    have hR7 := k7 _ _ hR6
    have bt7 := bt.trans (k7.but R)
    have hsa7 := k7 _ _ hsa6
    have hp7 := k7 _ _ hp6
    revert hR7 bt7 hsa7 hp7
    clear k7
    generalize upd H6 Tp (.tup [.ref p1, .ref sa]) = H7
    intro hR7 bt7 hsa7 hp7
    refine g_tup3 hp7 ?_
    walk_at "go"
    refine g_enT ?_
    walk_at "go"
    refine ⟨sa, _, rfl, sqT hsa7, ?_⟩
    refine for_itC walk_enumT (fun u σ H8 => (∃ o7 o8 o9 o10 o11 o12 o13 o14 o15, σ = [some (.ref wv0), some (.ref a), some (.ref R), some (.str e.2.1), some (.int (e.1 : Nat)), some (.ref t1), some (.ref sa), o7, o8, o9, o10, o11, o12, o13, o14, o15, none]) ∧ But R H7 H8 ∧ H8 R = some (.lst ((rowsTo wd r i ++ rowsFrom e.2.1 0 (rl0.take u)).map V.str))) ⟨⟨_, _, _, _, _, _, _, _, _, rfl⟩, But.refl _ _, by rw [List.take_zero]; show H7 R = some (.lst ((rowsTo wd r i ++ []).map V.str)); rw [List.append_nil]; exact hR7⟩ (fun u σ H8 _ h => sqT (h.2.1 _ _ nsa hsa7)) ?_ ?_
    · rintro RT BK u x σ H8 H8' hu ⟨⟨o7, o8, o9, o10, o11, o12, o13, o14, o15, rfl⟩, bt8, hR8⟩ ⟨Tq, x, y, rfl, hTq, rfl, hx, hy2⟩
      cases hx
      replace hy2 : svs[u]? = some y := hy2
      have lu : u < rl0.length := by omega
      have eu := List.getElem?_eq_getElem lu
      have mu := List.getElem_mem lu
      have stepu := rowsFrom_snoc e.2.1 (rl0.take u) 0 rl0[u]
      rw [← take_at eu, List.length_take, Nat.min_eq_left (Nat.le_of_lt lu), Nat.zero_add] at stepu
      revert eu mu stepu
      generalize rl0[u] = s0
      intro eu mu stepu
      obtain ⟨sl, st⟩ := Rs s0 mu
      obtain ⟨d2, hd2, rd2⟩ := rsv.get hy2
      rw [List.getElem?_map, eu] at hd2
      cases hd2
      obtain ⟨ta, ts, rfl, hta, rts⟩ := id (Rep.tupI (show Rep H (.tup (s0.map tmD)) y from rd2))
      have lts : ts.length = s0.length := by rw [rts.len, List.length_map]
      have k9 := Ex.new (o := .tup [.int (u : Nat), .ref ta]) hTq
      refine g_tup2 upd_same ?_
      have nta : ta ≠ R := fun z => by rw [z, hRH] at hta; cases hta
      have hta8 := k9 _ _ (bt8 _ _ nta (bt7 _ _ nta (e5 _ _ (eH4 _ _ hta))))
      have hR9 := k9 _ _ hR8
      have bt9 := bt8.trans (k9.but R)
      have tk9 : Tk H (upd H8 Tq (.tup [.int (u : Nat), .ref ta])) := fun x o h => by
        have nx : x ≠ R := fun q => by rw [q, hRH] at h; cases h
        exact k9 _ _ (bt8 _ _ nx (bt7 _ _ nx (e5 _ _ (eH4 _ _ h))))
      have rts9 := rts.tk tk9 (hards_map tm_hard s0)
      revert hta8 hR9 bt9 rts9
      clear k9 tk9
      generalize upd H8 Tq (.tup [.int (u : Nat), .ref ta]) = H9
      intro hta8 hR9 bt9 rts9
      walk_at "go"
      refine g_new fun S hS => ?_
      have nRS : R ≠ S := ne_of_none hR9 hS
      have nTS : ta ≠ S := ne_of_none hta8 hS
      have k10 := Ex.new (o := .lst []) hS
      have hta10 := k10 _ _ hta8
      have hR10 := k10 _ _ hR9
      have rts10 := rts9.ex k10
      have aS := @upd_same H9 S (.lst [])
      revert hta10 hR10 rts10 aS k10
      generalize upd H9 S (.lst []) = H10
      intro k10 hta10 hR10 rts10 aS
      walk_at "go"
      refine g_seqTs ?_
      walk_at "go"
      refine ⟨_, rfl, ⟨_, sqT hta10⟩, ?_⟩
      refine for_itC walk_tup (fun k σ H11 => (∃ o10 o11 o12 o13 o14 o15, σ = [some (.ref wv0), some (.ref a), some (.ref R), some (.str e.2.1), some (.int (e.1 : Nat)), some (.ref t1), some (.ref sa), some (.int (u : Nat)), some (.ref ta), some (.ref S), o10, o11, o12, o13, o14, o15, none]) ∧ But S H10 H11 ∧ H11 S = some (.lst (((s0.take k).map termT).map V.str))) ⟨⟨_, _, _, _, _, _, rfl⟩, But.refl _ _, aS⟩ (fun k σ H11 _ h => sqT (h.2.1 _ _ nTS hta10)) ?_ ?_
      · rintro RT BK k x σ H11 H11' hk ⟨⟨o10, o11, o12, o13, o14, o15, rfl⟩, bt11, hS11⟩ ⟨rfl, hx⟩
        replace hx : ts[k]? = some x := hx
        obtain ⟨d3, hd3, rd3⟩ := rts10.get hx
        rw [List.getElem?_map] at hd3
        cases ek : s0[k]? with
        | none => rw [ek] at hd3; cases hd3
        | some t0 =>
        rw [ek] at hd3
        cases hd3
        have tl := st t0 (List.mem_of_getElem? ek)
        obtain ⟨ma, mf, bq, rfl, hma, hmf, hbq⟩ := tm_at rd3
        have nma : ma ≠ S := fun z => by rw [z, aS] at hma; cases hma
        have nmf : mf ≠ S := fun z => by rw [z, aS] at hmf; cases hmf
        have nbq : bq ≠ S := fun z => by rw [z, aS] at hbq; cases hbq
        have hmf11 := bt11 _ _ nmf hmf
        have hbq11 := bt11 _ _ nbq hbq
        refine g_tup2 (bt11 _ _ nma hma) ?_
        walk_at "go"
        refine ⟨mf, t0.1, rfl, hmf11, tl.upper.le (by decide), tl.lower.le (by decide), ?_⟩
        walk_at "go"
        refine g_new fun W hW => ?_
        have nSW : S ≠ W := ne_of_none hS11 hW
        have k12 := Ex.new (o := .lst [.str (showFx t0.1)]) hW
        have hbq12 := k12 _ _ hbq11
        have hS12 := k12 _ _ hS11
        have aW := @upd_same H11' W (.lst [.str (showFx t0.1)])
        have nbW : bq ≠ W := ne_of_none hbq11 hW
        have bt12 := bt11.trans (k12.but S)
        have lW : H10 W = none := by
          cases hz : H10 W with
          | none => rfl
          | some o =>
            have := bt11 _ _ nSW.symm hz
            rw [hW] at this
            cases this
        revert hbq12 hS12 aW bt12
        clear k12
        generalize upd H11' W (.lst [.str (showFx t0.1)]) = H12
        intro hbq12 hS12 aW bt12
        walk_at "go"
        refine g_enT ?_
        walk_at "go"
        refine ⟨bq, _, rfl, sqT hbq12, ?_⟩
        have two := tl.two
        refine for_itC walk_enumT (fun j σ H13 => (∃ o13 o14 o15, σ = [some (.ref wv0), some (.ref a), some (.ref R), some (.str e.2.1), some (.int (e.1 : Nat)), some (.ref t1), some (.ref sa), some (.int (u : Nat)), some (.ref ta), some (.ref S), some (.ref mf), some (.ref bq), some (.ref W), o13, o14, o15, none]) ∧ But W H12 H13 ∧ H13 W = some (.lst ((showFx t0.1 :: wordsT 0 (t0.2.take j)).map V.str))) ⟨⟨_, _, _, rfl⟩, But.refl _ _, aW⟩ (fun j σ H13 _ h => sqT (h.2.1 _ _ nbW hbq12)) ?_ ?_
        · rintro RT BK j x σ H13 H13' hj ⟨⟨o13, o14, o15, rfl⟩, bt13, hW13⟩ ⟨Tz, x, y, rfl, hTz, rfl, hx, hy3⟩
          cases hx
          rw [List.length_map] at hj
          replace hy3 : (t0.2.map bxV)[j]? = some y := hy3
          rw [List.getElem?_map, List.getElem?_eq_getElem hj] at hy3
          have eb := List.getElem?_eq_getElem hj
          have mb := List.getElem_mem hj
          have ew := wordsT_snoc (t0.2.take j) 0 t0.2[j]
          rw [← take_at eb, List.length_take, Nat.min_eq_left (Nat.le_of_lt hj), Nat.zero_add] at ew
          have lw := wordsT_len (t0.2.take j) 0
          rw [List.length_take] at lw
          revert hy3 mb ew
          generalize t0.2[j] = bo
          intro hy3 mb ew
          cases hy3
          have k14 := Ex.new (o := .tup [.int (j : Nat), bxV bo]) hTz
          refine g_tup2 upd_same ?_
          have hW14 := k14 _ _ hW13
          have bt14 := bt13.trans (k14.but W)
          revert hW14 bt14
          clear k14
          generalize upd H13 Tz (.tup [.int (j : Nat), bxV bo]) = H14
          intro hW14 bt14
          have bj := small_bits (n := j) (by omega)
          have l1 := numT_bits bj
          walk_at "go"
          refine g_str (log_of bj (by decide) (by decide)) ?_
          walk_at "go"
          refine g_addS (by show _ + 1 ≤ _; omega) ?_
          walk_at "go"
          cases bo with
          | none =>
            have ev : bxV none = V.non := rfl
            rw [ev]
            walk_at "go"
            refine g_strN ?_
            walk_at "go"
            refine g_addS (by rw [app_len]; show _ + 1 + 4 ≤ _; omega) ?_
            walk_at "go"
            refine g_new fun L0 hL0 => ?_
            walk_at "go"
            refine g_rep01 (b := false) upd_same fun L hL => ?_
            walk_at "go"
            refine g_ext (zs := []) (Ex.new hL _ _ (Ex.new hL0 _ _ hW14)) upd_same (by rw [List.length_map]; show (wordsT 0 (t0.2.take j)).length + 1 + 0 ≤ 1000000; omega) ?_
            refine ⟨⟨_, _, _, rfl⟩, (bt14.trans (((Ex.new hL0).trans (Ex.new hL)).but W)).upd, ?_⟩
            rw [upd_same, ew]
            show some (HO.lst (_ ++ [])) = some (HO.lst ((showFx t0.1 :: (wordsT 0 (t0.2.take j) ++ [])).map V.str))
            rw [List.append_nil, List.append_nil]
          | some bi =>
            have ev : bxV (some bi) = V.int bi := rfl
            rw [ev]
            have bb := tl.box bi mb
            have l2 := numT_bits bb
            walk_at "go"
            refine g_str (log_of bb (by decide) (by decide)) ?_
            walk_at "go"
            refine g_addS (by rw [app_len]; show _ + 1 + _ ≤ _; omega) ?_
            walk_at "go"
            refine g_new fun L0 hL0 => ?_
            walk_at "go"
            refine g_rep01 (b := true) upd_same fun L hL => ?_
            walk_at "go"
            refine g_ext (zs := [V.str (wordT j bi)]) (Ex.new hL _ _ (Ex.new hL0 _ _ hW14)) upd_same (by rw [List.length_map]; show (wordsT 0 (t0.2.take j)).length + 1 + 1 ≤ 1000000; omega) ?_
            refine ⟨⟨_, _, _, rfl⟩, (bt14.trans (((Ex.new hL0).trans (Ex.new hL)).but W)).upd, ?_⟩
            rw [upd_same, ew]
            show some (HO.lst (_ ++ [V.str (wordT j bi)])) = some (HO.lst ((showFx t0.1 :: (wordsT 0 (t0.2.take j) ++ [wordT j bi])).map V.str))
            rw [List.map_cons, List.map_cons, List.map_append]
            rfl
        · rintro σ H13 ⟨⟨o13, o14, o15, rfl⟩, bt13, hW13⟩
          rw [List.length_map, List.take_length] at hW13
          have hS13 := bt13 _ _ nSW hS12
          have b13 : But S H10 H13 := fun x o nx h => bt13 _ _ (fun z => by rw [z, lW] at h; cases h) (bt12 _ _ nx h)
          have l1 := showFx_len tl.upper tl.lower
          have l2 := wordsT_len t0.2 0
          walk_at "go"
          (try refine g_m1 ?_)
          walk_at "go"
          refine ⟨" ", W, showFx t0.1 :: wordsT 0 t0.2, rfl, rfl, .inl (sqL hW13), joinC (b := 200) (fun s hs => ?_) (by rw [List.length_cons]; omega) (by decide) (by decide), ?_⟩
          · rcases List.mem_cons.1 hs with rfl | hs
            · omega
            · obtain ⟨k, b, rfl, hk, hb⟩ := wordsT_in _ _ _ hs
              exact wordT_len (by omega) ((tl.box b hb).le (by decide))
          walk_at "go"
          refine g_app hS13 (Nat.lt_of_le_of_lt (by rw [List.length_map, List.length_map, List.length_take]; omega : _ ≤ 1000) (by decide)) ?_
          refine ⟨⟨_, _, _, _, _, _, rfl⟩, b13.upd, ?_⟩
          rw [upd_same, take_at ek, List.map_append, List.map_append]
          rfl
      · rintro σ H11 ⟨⟨o10, o11, o12, o13, o14, o15, rfl⟩, bt11, hS11⟩
        rw [lts, List.take_length] at hS11
        have e911 : Ex H9 H11 := Ex.of_but ((k10.but S).trans bt11) hS
        have hR11 := e911 _ _ hR9
        have b711 := bt9.trans (e911.but R)
        have l3 := sumT_len sl st
        walk_at "go"
        (try refine g_m1 ?_)
        walk_at "go"
        refine ⟨" + ", S, s0.map termT, rfl, rfl, .inl (sqL hS11), joinC (b := 700) (fun x hx => ?_) (by rw [List.length_map]; omega) (by decide) (by decide), ?_⟩
        · obtain ⟨t, ht, rfl⟩ := List.mem_map.1 hx
          exact (st t ht).len
        walk_at "go"
        refine g_new fun N0 hN0 => ?_
        have k12 := Ex.new (o := .lst []) hN0
        refine g_eqNil (k12 _ _ hS11) upd_same (fun x hx => ?_) ?_
        · obtain ⟨z, hz, rfl⟩ := List.mem_map.1 hx
          obtain ⟨t, ht, rfl⟩ := List.mem_map.1 hz
          exact dpok_str fun c hc => by have := termT_sign t c hc; omega
        have hR12 := k12 _ _ hR11
        have b712 := b711.trans (k12.but R)
        revert hR12 b712
        clear k12
        generalize upd H11 N0 (.lst []) = H12
        intro hR12 b712
        walk_at "go"
        refine g_repS (by unfold b2z; split <;> decide) (by unfold b2z; split <;> decide) (by decide) ?_
        have es : Txt.join " + " (s0.map termT) ++ repS "none" (b2z (((s0.map termT).map V.str).isEmpty)) = sumT s0 := by
          cases s0 with
          | nil => exact str_ext (by rw [app_list]; rfl)
          | cons x xs => exact str_ext (by rw [app_list]; exact List.append_nil _)
        have lj := app_len (Txt.join " + " (s0.map termT)) (repS "none" (b2z (((s0.map termT).map V.str).isEmpty)))
        rw [es] at lj
        refine g_addS (by omega) ?_
        rw [es]
        have l1 := isName_len6 (ok.low _ (show e.2.1 ∈ mkNames wd by rw [← tab_names wd 0]; exact List.mem_map.2 ⟨_, List.mem_of_getElem? et, rfl⟩))
        have bu := small_bits (n := u) (by omega)
        have l2 := numT_bits bu
        walk_at "go"
        refine g_addS (by show _ + 1 ≤ _; omega) ?_
        walk_at "go"
        refine g_str (log_of bu (by decide) (by decide)) ?_
        walk_at "go"
        refine g_addS (by rw [app_len]; show _ + 1 + _ ≤ _; omega) ?_
        walk_at "go"
        refine g_addS (by rw [app_len, app_len]; show _ + 1 + _ + 3 ≤ _; omega) ?_
        walk_at "go"
        refine g_addS (by rw [app_len, app_len, app_len]; show _ + 1 + _ + 3 + _ ≤ _; omega) ?_
        walk_at "go"
        refine g_app hR12 (Nat.lt_of_le_of_lt (by rw [List.length_map, List.length_append, rowsFrom_len, List.length_take]; omega : _ ≤ 1000) (by decide)) ?_
        refine ⟨⟨_, _, _, _, _, _, _, _, _, rfl⟩, b712.upd, ?_⟩
        rw [upd_same, stepu, ← List.append_assoc, List.map_append (l₁ := _ ++ _)]
        rfl
    · rintro σ H8 ⟨⟨o7, o8, o9, o10, o11, o12, o13, o14, o15, rfl⟩, bt8, hR8⟩
      rw [lsv, List.take_length] at hR8
      refine ⟨⟨_, _, _, _, _, _, _, _, _, _, _, _, _, rfl⟩, bt7.trans bt8, ?_⟩
      rw [step]
      exact hR8
  · rintro σ H6 ⟨⟨o3, o4, o5, o6, o7, o8, o9, o10, o11, o12, o13, o14, o15, rfl⟩, bt, hR6⟩
    rw [lus, rowsTo_all lrl] at hR6
    walk_at "go"
    exact q _ _ hRH (Ex.of_but (((eH4.trans e5).but R).trans bt) hRH) hR6
theorem vi_fraction_of_0 : Vis (defScope s_fraction_of) "upper" := by first | exact Or.inl (by decide +kernel) | exact Or.inr (Or.inl (by decide +kernel)) | exact Or.inr (Or.inr (by decide +kernel))
theorem vi_fraction_of_1 : Vis (defScope s_fraction_of) "lower" := by first | exact Or.inl (by decide +kernel) | exact Or.inr (Or.inl (by decide +kernel)) | exact Or.inr (Or.inr (by decide +kernel))
theorem vi_fraction_of_2 : Vis (defScope s_fraction_of) "part" := by first | exact Or.inl (by decide +kernel) | exact Or.inr (Or.inl (by decide +kernel)) | exact Or.inr (Or.inr (by decide +kernel))
theorem lo_fraction_of_2 : Loc (defScope s_fraction_of) "part" := by first | exact Or.inl (by decide +kernel) | exact Or.inr (by decide +kernel)
theorem ok_fraction_of (T : Txt K mg) : FnOk P w K mg base (L2.CX P w) 3 T.a_fraction_of T.d_fraction_of ["upper", "lower"] (spFrac T.a_Nought) := by
  refine T.F_fraction_of.ok sc_fraction_of (fun vs H Q E h => ?_) (fun cdv A outer s H vs Q E hr h => ?_)
  · obtain ⟨a, b, rfl, _⟩ := h
    rfl
  obtain ⟨u, l, rfl, bu, bl, q0, q⟩ := h
  refine ⟨_, (pss_cons (ps_if (pt_cmpR op_eq (uv 1 (hv := vi_fraction_of_1)) pe_int (nomark _)) (pss_one (ps_raise rfl (takes_of rfl rfl rfl rfl) (pmk_x0 PySem.F.excBase_ZeroDivisionError T.x_Nought T.i_Nought T.t_Nought (ok_init_Nought T T.z_ZeroDivisionError) (hr.mono (by decide)) T.bI_Nought passL T.m_Nought rfl))) pss_nil)
      (pss_cons (ps_set (i := 2) sc_fraction_of.nd rfl lo_fraction_of_2 (pe_callD (ok_common_part T) (hr.mono (by decide)) rfl T.m_common_part T.F_common_part.kp T.b_common_part .nil (fun σ => passAt (takes_of rfl rfl rfl rfl) σ) (pa_cons (uv 0 (hv := vi_fraction_of_0)) (pa_cons (uv 1 (hv := vi_fraction_of_1)) pa_nil))))
      (pss_cons (ps_if (pt_cmpR uo_lt (uv 1 (hv := vi_fraction_of_1)) pe_int (nomark _)) (pss_one (ps_set (i := 2) sc_fraction_of.nd rfl lo_fraction_of_2 (pe_op uo_sub pe_int (uv 2 (hv := vi_fraction_of_2))))) pss_nil)
      (pss_one (ps_ret (pe_tup (pa_cons (pe_op uo_fd (uv 0 (hv := vi_fraction_of_0)) (uv 2 (hv := vi_fraction_of_2))) (pa_cons (pe_op uo_fd (uv 1 (hv := vi_fraction_of_1)) (uv 2 (hv := vi_fraction_of_2))) pa_nil)))))))), ?_⟩
  walk_at "go"
  refine i_eqI (fun c => ?_) fun c => ?_
  · walk_at "go"
    intro a ha
    exact ⟨a, T.a_Nought, rfl, T.x_Nought, upd_same, rfl, rfl, q0 c⟩
  · walk_at "go"
    refine ⟨_, _, rfl, ?_⟩
    have fin : ∀ g : Int, g = fpt u l → _ := fun g e => by
      subst e
      exact q c
    have e0 := fpt_ne (u := u) c
    have cf : CFd u (fpt u l) := (fpt_bits c bl).fd e0
    have cl : CFd l (fpt u l) := (fpt_bits c bl).fd e0
    walk_at "go"
    refine i_d (fun k => ?_) fun k => ?_
    · have e : (0 : Int) - (Int.gcd u l : Nat) = fpt u l := (if_pos k).symm
      walk_at "go"
      rw [e]
      refine g_i ?_ cf
      walk_at "go"
      exact g_new (q c)
    · have e : ((Int.gcd u l : Nat) : Int) = fpt u l := (if_neg k).symm
      walk_at "go"
      rw [e]
      refine g_i ?_ cf
      walk_at "go"
      exact g_new (q c)
theorem vi_need_readers_0 : Vis (defScope s_need_readers) "good" := by first | exact Or.inl (by decide +kernel) | exact Or.inr (Or.inl (by decide +kernel)) | exact Or.inr (Or.inr (by decide +kernel))
theorem ok_need_readers (T : Txt K mg) : FnOk P w K mg base (L2.CX P w) 3 T.a_need_readers T.d_need_readers ["good", "word", "maker"] (spNeedR T.a_NoReader) := by
  refine T.F_need_readers.ok sc_need_readers (fun vs H Q E h => ?_) (fun cdv A outer s H vs Q E hr h => ?_)
  · obtain ⟨_, _, _, rfl, _⟩ := h
    rfl
  obtain ⟨b, x, y, rfl, q1, q0⟩ := h
  refine ⟨_, (pss_one (ps_if (pt_not (ut (uv 0 (hv := vi_need_readers_0)))) (pss_one (ps_raise rfl (takes_of rfl rfl rfl rfl) (pmk_oex T.o_NoReader T.i_NoReader T.t_NoReader (ok_init_NoReader T) (hr.mono (by decide)) T.bI_NoReader .nil passL rfl T.m_NoReader (pa_cons (uv 1) (pa_cons (uv 2) pa_nil))))) pss_nil)), ?_⟩
  walk_at "go"
  cases b with
  | true =>
    walk_at "go"
    exact q1 rfl
  | false =>
    walk_at "go"
    exact end_exc2 T.x_NoReader T.o_NoReader T.n_NoReader_word T.n_NoReader_maker fun d H' e h => q0 rfl d H' e h
theorem vi_show_reader_0 : Vis (defScope s_show_reader) "wood" := by first | exact Or.inl (by decide +kernel) | exact Or.inr (Or.inl (by decide +kernel)) | exact Or.inr (Or.inr (by decide +kernel))
theorem vi_show_reader_1 : Vis (defScope s_show_reader) "reader" := by first | exact Or.inl (by decide +kernel) | exact Or.inr (Or.inl (by decide +kernel)) | exact Or.inr (Or.inr (by decide +kernel))
theorem vi_show_reader_2 : Vis (defScope s_show_reader) "counts" := by first | exact Or.inl (by decide +kernel) | exact Or.inr (Or.inl (by decide +kernel)) | exact Or.inr (Or.inr (by decide +kernel))
theorem vi_show_reader_3 : Vis (defScope s_show_reader) "rules" := by first | exact Or.inl (by decide +kernel) | exact Or.inr (Or.inl (by decide +kernel)) | exact Or.inr (Or.inr (by decide +kernel))
theorem vi_show_reader_4 : Vis (defScope s_show_reader) "rows" := by first | exact Or.inl (by decide +kernel) | exact Or.inr (Or.inl (by decide +kernel)) | exact Or.inr (Or.inr (by decide +kernel))
theorem vi_show_reader_5 : Vis (defScope s_show_reader) "maker" := by first | exact Or.inl (by decide +kernel) | exact Or.inr (Or.inl (by decide +kernel)) | exact Or.inr (Or.inr (by decide +kernel))
theorem vi_show_reader_6 : Vis (defScope s_show_reader) "sums" := by first | exact Or.inl (by decide +kernel) | exact Or.inr (Or.inl (by decide +kernel)) | exact Or.inr (Or.inr (by decide +kernel))
theorem vi_show_reader_7 : Vis (defScope s_show_reader) "box" := by first | exact Or.inl (by decide +kernel) | exact Or.inr (Or.inl (by decide +kernel)) | exact Or.inr (Or.inr (by decide +kernel))
theorem vi_show_reader_8 : Vis (defScope s_show_reader) "terms" := by first | exact Or.inl (by decide +kernel) | exact Or.inr (Or.inl (by decide +kernel)) | exact Or.inr (Or.inr (by decide +kernel))
theorem vi_show_reader_9 : Vis (defScope s_show_reader) "told" := by first | exact Or.inl (by decide +kernel) | exact Or.inr (Or.inl (by decide +kernel)) | exact Or.inr (Or.inr (by decide +kernel))
theorem lo_show_reader_2 : Loc (defScope s_show_reader) "counts" := by first | exact Or.inl (by decide +kernel) | exact Or.inr (by decide +kernel)
theorem lo_show_reader_3 : Loc (defScope s_show_reader) "rules" := by first | exact Or.inl (by decide +kernel) | exact Or.inr (by decide +kernel)
theorem lo_show_reader_4 : Loc (defScope s_show_reader) "rows" := by first | exact Or.inl (by decide +kernel) | exact Or.inr (by decide +kernel)
theorem lo_show_reader_5 : Loc (defScope s_show_reader) "maker" := by first | exact Or.inl (by decide +kernel) | exact Or.inr (by decide +kernel)
theorem lo_show_reader_6 : Loc (defScope s_show_reader) "sums" := by first | exact Or.inl (by decide +kernel) | exact Or.inr (by decide +kernel)
theorem lo_show_reader_7 : Loc (defScope s_show_reader) "box" := by first | exact Or.inl (by decide +kernel) | exact Or.inr (by decide +kernel)
theorem lo_show_reader_8 : Loc (defScope s_show_reader) "terms" := by first | exact Or.inl (by decide +kernel) | exact Or.inr (by decide +kernel)
theorem lo_show_reader_9 : Loc (defScope s_show_reader) "told" := by first | exact Or.inl (by decide +kernel) | exact Or.inr (by decide +kernel)
theorem ok_show_reader (T : Txt K mg) : FnOk P w K mg base (L2.CX P w) 3 T.a_show_reader T.d_show_reader ["wood", "reader"] spShowR := by
  refine T.F_show_reader.okX sc_show_reader (fun vs H Q E h => ?_) (fun cdv A outer s H vs Q E hr h => ?_)
  · obtain ⟨_, _, _, _, rfl, _⟩ := h
    rfl
  obtain ⟨wd, r, wv, rv, rfl, rw1, ok, rr, rok, q⟩ := h
  refine ⟨_, (pss_cons (ps_asg (uv 1 (hv := vi_show_reader_1)) (pg_tup rfl (pgs_cons (pg_name (i := 2) sc_show_reader.nd rfl lo_show_reader_2) (pgs_cons (pg_name (i := 3) sc_show_reader.nd rfl lo_show_reader_3) pgs_nil))))
      (pss_cons (ps_set (i := 4) sc_show_reader.nd rfl lo_show_reader_4 (pe_lst (pa_cons (pe_join pe_str (pe_op uo_add (pe_lst (pa_cons pe_str pa_nil)) (pe_lc (own := [("count", 10)]) (g := gName 10) rfl sc_show_reader.nd (ui_seq (uv 2 (hv := vi_show_reader_2))) (blkOk_by (own := [("count", 10)]) (N := N_show_reader) (sc := defScope s_show_reader) (by decide +kernel)) (fun _ _ _ _ _ => (pg_name (i := 10) sc_show_reader.nd rfl (by first | exact Or.inl rfl | exact Or.inr rfl))) (fun _ _ _ _ _ => pts_nil) (fun _ _ _ _ _ => (pe_callTy uk_str rfl T.z_str boot_str (pa_cons (uv 10) pa_nil)))))) pa_nil)))
      (pss_cons (ps_for (passes_of rfl) rfl (pi_zipS rfl T.z_zip (pa_cons (pe_callD (ok_makers_of T) (hr.mono (by decide)) rfl T.m_makers_of T.F_makers_of.kp T.b_makers_of .nil (fun σ => passAt (takes_of rfl rfl rfl rfl) σ) (pa_cons (uv 0 (hv := vi_show_reader_0)) pa_nil)) (pa_cons (uv 3 (hv := vi_show_reader_3)) pa_nil)) pe_bl) (pg_tup rfl (pgs_cons (pg_name (i := 5) sc_show_reader.nd rfl lo_show_reader_5) (pgs_cons (pg_name (i := 6) sc_show_reader.nd rfl lo_show_reader_6) pgs_nil))) (pss_one (ps_for (passes_of rfl) rfl (ui_enum rfl T.z_enumerate (pa_cons (uv 6 (hv := vi_show_reader_6)) pa_nil)) (pg_tup rfl (pgs_cons (pg_name (i := 7) sc_show_reader.nd rfl lo_show_reader_7) (pgs_cons (pg_name (i := 8) sc_show_reader.nd rfl lo_show_reader_8) pgs_nil))) (pss_cons (ps_set (i := 9) sc_show_reader.nd rfl lo_show_reader_9 pe_str)
      (C8.pss_cut (ps_if (pt_cmpR uo_gt (pe_callB uk_len rfl T.z_len boot_len (pa_cons (uv 8 (hv := vi_show_reader_8)) pa_nil)) pe_int (nomark _)) (pss_one (ps_set (i := 9) sc_show_reader.nd rfl lo_show_reader_9 (pe_join pe_str (pe_lc (own := [("term", 11)]) (g := gName 11) rfl sc_show_reader.nd (ui_seq (uv 8 (hv := vi_show_reader_8))) (blkOk_by (own := [("term", 11)]) (N := N_show_reader) (sc := defScope s_show_reader) (by decide +kernel)) (fun _ _ _ _ _ => (pg_name (i := 11) sc_show_reader.nd rfl (by first | exact Or.inl rfl | exact Or.inr rfl))) (fun _ _ _ _ _ => pts_nil) (fun _ _ _ _ _ => (pe_callD (ok_term_text T) (hr.mono (by decide)) rfl T.m_term_text T.F_term_text.kp T.b_term_text .nil (fun _ => passAt0) (pa_cons (uv 11) pa_nil))))))) pss_nil)
      (pss_one (ps_expr (pe_bm PySem.F.plainAttrs_list PySem.F.slot_list_append PySem.F.type_list_append mt_append (uv 4 (hv := vi_show_reader_4)) (pa_cons (pe_joinU (PJ.cons (pe_fmtU (uv 5 (hv := vi_show_reader_5))) (PJ.cons pe_str (PJ.cons (pe_fmtU (uv 7 (hv := vi_show_reader_7))) (PJ.cons pe_str (PJ.cons (pe_fmtU (uv 9 (hv := vi_show_reader_9))) PJ.nil)))))) pa_nil)))))))))
      (pss_one (ps_ret (pe_join pe_str (uv 4 (hv := vi_show_reader_4)))))))), ?_⟩
  have tabl := ok.many
  have kds := ok.kinds
  obtain ⟨wv0, wvx, rfl, hwv, rwv⟩ := id rw1.tupI
  obtain ⟨a, c, b, xs, rfl, ha, hc, hbb, rx⟩ := rd_at rr
  have lxs : xs.length = r.2.length := by rw [rx.len, List.length_map]
  have lrl := rok.rules
  have lct := rok.counts
  have lnm : ((mkNames wd).map V.str).length = (tabFrom 0 wd).length := by rw [List.length_map, ← tab_names wd 0, List.length_map]
  have cb := rok.cbits
  walk_at "go"
  refine g_tup2 ha ?_
  walk_at "go"
  (try refine g_m1 ?_)
  walk_at "go"
  refine g_new fun h1 hh1 => ?_
  have k1 := Ex.new (o := .lst [.str "reader"]) hh1
  have ah1 := @upd_same H h1 (.lst [.str "reader"])
  have hc1 := k1 _ _ hc
  walk_at "go"
  refine g_seqTs ?_
  walk_at "go"
  refine ⟨_, rfl, ⟨_, sqT hc1⟩, fun D hD => ?_⟩
  refine lc_mapE walk_tup (fun i _ v => ∃ x, r.1[i]? = some x ∧ v = .str (numT x)) (by rw [List.length_map]; omega) hD (fun _ _ _ _ _ r => r) (fun _ e => sqT (e _ _ hc1)) ?_ ?_
  · rintro i x H2 H3 P N hi e ⟨rfl, hx⟩ k
    rw [List.getElem?_map] at hx
    cases ex : r.1[i]? with
    | none => rw [ex] at hx; cases hx
    | some x0 =>
    rw [ex] at hx
    cases hx
    walk_at "go"
    refine ⟨rfl, ?_⟩
    walk_at "go"
    refine g_str (log_of (cb x0 (List.mem_of_getElem? ex)) (by decide) (by decide)) ?_
    exact k _ _ (Ex.refl _) ⟨x0, ex, rfl⟩
  intro H2 acc e2 hacc hla hr2
  rw [List.length_map] at hla
  have ea := acc_mapS hla hr2
  have ah2 := e2 _ _ ah1
  rw [ea] at hacc
  walk_at "go"
  refine g_catL ah2 hacc (by rw [List.length_map, List.length_map]; show 1 + _ ≤ _; omega) fun h3 hh3 => ?_
  have k3 := Ex.new (o := .lst ([V.str "reader"] ++ (r.1.map numT).map V.str)) hh3
  walk_at "go"
  refine ⟨" ", h3, "reader" :: r.1.map numT, rfl, rfl, .inl (sqL upd_same), joinC (b := 20) (fun s hs => ?_) (by rw [List.length_cons, List.length_map]; omega) (by decide) (by decide), ?_⟩
  · rcases List.mem_cons.1 hs with rfl | hs
    · decide
    · obtain ⟨x, hx, rfl⟩ := List.mem_map.1 hs
      exact Nat.le_trans (numT_bits (cb x hx)) (by decide)
  have eH3 := k1.trans (e2.trans k3)
  revert eH3
  clear k3 k1
  generalize upd H2 h3 (.lst ([V.str "reader"] ++ (r.1.map numT).map V.str)) = H3
  intro eH3
  walk_at "go"
  refine g_new fun R hR => ?_
  have hRH : H R = none := eH3.free hR
  have k4 := Ex.new (o := .lst [.str (Txt.join " " ("reader" :: r.1.map numT))]) hR
  have eH4 := eH3.trans k4
  have aR := @upd_same H3 R (.lst [.str (Txt.join " " ("reader" :: r.1.map numT))])
  revert eH4 aR
  clear k4
  generalize upd H3 R (.lst [.str (Txt.join " " ("reader" :: r.1.map numT))]) = H4
  intro eH4 aR
  have rw4 := rw1.ex eH4
  have hb4 := eH4 _ _ hbb
  walk_at "go"
  refine ⟨wd, _, rfl, rw4, Nat.le_trans ok.names (by decide), ok.row, fun ml H5 hml0 e5 hml => ?_⟩
  have hb5 := e5 _ _ hb4
  have aR5 := e5 _ _ aR
  have nml : ml ≠ R := fun z => by rw [z, aR] at hml0; cases hml0
  have nb : b ≠ R := fun z => by rw [z, hRH] at hbb; cases hbb
  walk_at "go"
  refine ⟨false, true, ml, b, _, _, rfl, sqL hml, sqT hb5, ?_⟩
  refine for_it (walk_zipS (k1 := false) (k2 := true) (by omega)) (fun i σ H6 => (∃ o5 o6 o7 o8 o9, σ = [some (.ref wv0), some (.ref a), some (.ref c), some (.ref b), some (.ref R), o5, o6, o7, o8, o9, none, none]) ∧ But R H5 H6 ∧ H6 R = some (.lst ((rowsTo wd r i).map V.str))) ⟨⟨_, _, _, _, _, rfl⟩, But.refl _ _, aR5⟩ (fun i σ H6 _ h => ⟨sqL (h.2.1 _ _ nml hml), sqT (h.2.1 _ _ nb hb5)⟩) ?_ ?_
  · rintro i x σ H6 H6' hi ⟨⟨o5, o6, o7, o8, o9, rfl⟩, bt, hR6⟩ ⟨Tp, x, y, rfl, hTp, rfl, hx, hy⟩
    replace hx : ((mkNames wd).map V.str)[i]? = some x := hx
    replace hy : xs[i]? = some y := hy
    have hi2 : i < (tabFrom 0 wd).length := by omega
    have et := List.getElem?_eq_getElem hi2
    have ex := List.getElem?_eq_getElem (l := r.2) (i := i) (by omega)
    have RL := rok.rll ok et ex
    have step := rowsTo_step et ex
    have rlen := rowsTo_len ok rok i (by omega)
    revert et ex RL step
    generalize (tabFrom 0 wd)[i] = e
    generalize r.2[i] = rl0
    intro et ex RL step
    obtain ⟨Rm, Rs⟩ := RL
    rw [← tab_names wd 0, List.map_map, List.getElem?_map, et] at hx
    cases hx
    obtain ⟨dd, hdd, rd⟩ := rx.get hy
    rw [List.getElem?_map, ex] at hdd
    cases hdd
    obtain ⟨sa, svs, rfl, hsa, rsv⟩ := id (Rep.tupI rd)
    have lsv : svs.length = rl0.length := by rw [rsv.len, List.length_map]
    have k7 := Ex.new (o := .tup [.str e.2.1, .ref sa]) hTp
    show gTup _ _ _ _ _ (upd H6 Tp (.tup [.str e.2.1, .ref sa])) _
    have nsa : sa ≠ R := fun z => by rw [z, hRH] at hsa; cases hsa
    have hsa6 := bt _ _ nsa (e5 _ _ (eH4 _ _ hsa))
    refine g_tup2 upd_same ?_
    have hR7 := k7 _ _ hR6
    have bt7 := bt.trans (k7.but R)
    have hsa7 := k7 _ _ hsa6
    revert hR7 bt7 hsa7
    clear k7
    generalize upd H6 Tp (.tup [.str e.2.1, .ref sa]) = H7
    intro hR7 bt7 hsa7
    walk_at "go"
    refine g_enT ?_
    walk_at "go"
    refine ⟨sa, _, rfl, sqT hsa7, ?_⟩
    refine for_it walk_enumT (fun u σ H8 => (∃ o7 o8 o9, σ = [some (.ref wv0), some (.ref a), some (.ref c), some (.ref b), some (.ref R), some (.str e.2.1), some (.ref sa), o7, o8, o9, none, none]) ∧ But R H7 H8 ∧ H8 R = some (.lst ((rowsTo wd r i ++ rowsFrom e.2.1 0 (rl0.take u)).map V.str))) ⟨⟨_, _, _, rfl⟩, But.refl _ _, by rw [List.take_zero]; show H7 R = some (.lst ((rowsTo wd r i ++ []).map V.str)); rw [List.append_nil]; exact hR7⟩ (fun u σ H8 _ h => sqT (h.2.1 _ _ nsa hsa7)) ?_ ?_
    · rintro u x σ H8 H8' hu ⟨⟨o7, o8, o9, rfl⟩, bt8, hR8⟩ ⟨Tq, x, y, rfl, hTq, rfl, hx, hy2⟩
      cases hx
      replace hy2 : svs[u]? = some y := hy2
      have lu : u < rl0.length := by omega
      have eu := List.getElem?_eq_getElem lu
      have mu := List.getElem_mem lu
      have stepu := rowsFrom_snoc e.2.1 (rl0.take u) 0 rl0[u]
      rw [← take_at eu, List.length_take, Nat.min_eq_left (Nat.le_of_lt lu), Nat.zero_add] at stepu
      revert eu mu stepu
      generalize rl0[u] = s0
      intro eu mu stepu
      obtain ⟨sl, st⟩ := Rs s0 mu
      obtain ⟨d2, hd2, rd2⟩ := rsv.get hy2
      rw [List.getElem?_map, eu] at hd2
      cases hd2
      obtain ⟨ta, ts, rfl, hta, rts⟩ := id (Rep.tupI (show Rep H (.tup (s0.map tmD)) y from rd2))
      have lts : ts.length = s0.length := by rw [rts.len, List.length_map]
      have k9 := Ex.new (o := .tup [.int (u : Nat), .ref ta]) hTq
      refine g_tup2 upd_same ?_
      have nta : ta ≠ R := fun z => by rw [z, hRH] at hta; cases hta
      have hta8 := k9 _ _ (bt8 _ _ nta (bt7 _ _ nta (e5 _ _ (eH4 _ _ hta))))
      have hR9 := k9 _ _ hR8
      have bt9 := bt8.trans (k9.but R)
      have tk9 : Tk H (upd H8 Tq (.tup [.int (u : Nat), .ref ta])) := fun x o h => by
        have nx : x ≠ R := fun q => by rw [q, hRH] at h; cases h
        exact k9 _ _ (bt8 _ _ nx (bt7 _ _ nx (e5 _ _ (eH4 _ _ h))))
      have rts9 := rts.tk tk9 (hards_map tm_hard s0)
      revert hta8 hR9 bt9 rts9
      clear k9 tk9
      generalize upd H8 Tq (.tup [.int (u : Nat), .ref ta]) = H9
      intro hta8 hR9 bt9 rts9
      walk_at "go"
      refine ⟨fun σ H10 => σ = [some (.ref wv0), some (.ref a), some (.ref c), some (.ref b), some (.ref R), some (.str e.2.1), some (.ref sa), some (.int (u : Nat)), some (.ref ta), some (.str (sumT s0)), none, none] ∧ Ex H9 H10, ?_, ?_⟩
      · walk_at "go"
        refine i_d (fun c1 => ?_) fun c1 => ?_
        · walk_at "go"
          (try refine g_m1 ?_)
          walk_at "go"
          refine g_seqTs ?_
          walk_at "go"
          refine ⟨_, rfl, ⟨_, sqT hta8⟩, fun D hD => ?_⟩
          refine lc_mapE walk_tup (fun j _ v => ∃ x, s0[j]? = some x ∧ v = .str (termT x)) (by omega) hD (fun _ _ _ _ _ r => r) (fun _ e => sqT (e _ _ hta8)) ?_ ?_
          · rintro j x H10 H11 P N hj e10 ⟨rfl, hx⟩ k
            obtain ⟨d3, hd3, rd3⟩ := rts9.get hx
            rw [List.getElem?_map] at hd3
            cases ej : s0[j]? with
            | none => rw [ej] at hd3; cases hd3
            | some t0 =>
            rw [ej] at hd3
            cases hd3
            have tl := st t0 (List.mem_of_getElem? ej)
            walk_at "go"
            refine ⟨rfl, ?_⟩
            walk_at "go"
            refine ⟨t0, _, rfl, rd3.ex e10, by have := tl.two; omega, tl.upper.le (by decide), tl.lower.le (by decide), fun b hb => (tl.box b hb).le (by decide), fun H12 e12 => ?_⟩
            exact k _ _ e12 ⟨t0, ej, rfl⟩
          intro H10 acc e10 hacc hla hr3
          have ea := acc_mapS (hla.trans lts) hr3
          rw [ea] at hacc
          walk_at "go"
          refine ⟨" + ", D, s0.map termT, rfl, rfl, .inl (sqL hacc), joinC (b := 700) (fun x hx => ?_) (by rw [List.length_map]; omega) (by decide) (by decide), ?_⟩
          · obtain ⟨t, ht, rfl⟩ := List.mem_map.1 hx
            exact (st t ht).len
          have e : sumT s0 = Txt.join " + " (s0.map termT) := if_neg fun z => by rw [z] at lts; rw [lts] at c1; exact absurd c1 (by decide)
          rw [e]
          exact ⟨rfl, e10⟩
        · walk_at "go"
          have e : sumT s0 = "none" := if_pos (List.eq_nil_of_length_eq_zero (by omega))
          rw [e]
          exact ⟨rfl, Ex.refl _⟩
      rintro σ H10 ⟨rfl, e10⟩
      have hR10 := e10 _ _ hR9
      have bt10 := bt9.trans (e10.but R)
      have l1 := isName_len6 (ok.low _ (show e.2.1 ∈ mkNames wd by rw [← tab_names wd 0]; exact List.mem_map.2 ⟨_, List.mem_of_getElem? et, rfl⟩))
      have bu := small_bits (n := u) (by omega)
      have l2 := numT_bits bu
      have l3 := sumT_len sl st
      walk_at "go"
      refine g_fmtS (by omega) ?_
      refine g_jv (by rw [empty_len]; omega) ?_
      rw [empty_app]
      walk_at "go"
      refine g_jv (by show _ + 1 ≤ _; omega) ?_
      walk_at "go"
      refine g_fmtI (log_of bu (by decide) (by decide)) ?_
      refine g_jv (by rw [app_len]; show _ + 1 + _ ≤ _; omega) ?_
      walk_at "go"
      refine g_jv (by rw [app_len, app_len]; show _ + 1 + _ + 3 ≤ _; omega) ?_
      walk_at "go"
      refine g_fmtS (by omega) ?_
      refine g_jv (by rw [app_len, app_len, app_len]; show _ + 1 + _ + 3 + _ ≤ _; omega) ?_
      walk_at "go"
      refine g_app hR10 (Nat.lt_of_le_of_lt (by rw [List.length_map, List.length_append, rowsFrom_len, List.length_take]; omega : _ ≤ 1000) (by decide)) ?_
      refine ⟨⟨_, _, _, rfl⟩, bt10.upd, ?_⟩
      rw [upd_same, stepu, ← List.append_assoc, List.map_append (l₁ := _ ++ _)]
      rfl
    · rintro σ H8 ⟨⟨o7, o8, o9, rfl⟩, bt8, hR8⟩
      rw [lsv, List.take_length] at hR8
      refine ⟨⟨_, _, _, _, _, rfl⟩, bt7.trans bt8, ?_⟩
      rw [step]
      exact hR8
  · rintro σ H6 ⟨⟨o5, o6, o7, o8, o9, rfl⟩, bt, hR6⟩
    rw [lnm, rowsTo_all lrl] at hR6
    have rl := rowsTo_len ok rok (tabFrom 0 wd).length (Nat.le_refl _)
    have rr2 := rowsTo_row ok rok (tabFrom 0 wd).length (Nat.le_refl _)
    rw [rowsTo_all lrl] at rl rr2
    walk_at "go"
    (try refine g_m1 ?_)
    walk_at "go"
    refine ⟨"\n", R, rowsR wd r, rfl, rfl, .inl (sqL hR6), joinC (b := 5100) rr2 (by omega) (by decide) (by decide), ?_⟩
    exact q _ (Ex.of_but (((eH4.trans e5).but R).trans bt) hRH)
theorem vi_need_readertexts_0 : Vis (defScope s_need_readertexts) "good" := by first | exact Or.inl (by decide +kernel) | exact Or.inr (Or.inl (by decide +kernel)) | exact Or.inr (Or.inr (by decide +kernel))
theorem ok_need_readertexts (T : Txt K mg) : FnOk P w K mg base (L2.CX P w) 3 T.a_need_readertexts T.d_need_readertexts ["good", "row"] (spNeedT T.a_NoText) := by
  refine T.F_need_readertexts.okX sc_need_readertexts (fun vs H Q E h => ?_) (fun cdv A outer s H vs Q E hr h => ?_)
  · obtain ⟨_, _, rfl, _⟩ := h
    rfl
  obtain ⟨b, x, rfl, q1, q0⟩ := h
  refine ⟨_, (pss_one (ps_if (pt_not (ut (uv 0 (hv := vi_need_readertexts_0)))) (pss_one (ps_raise rfl (takes_of rfl rfl rfl rfl) (pmk_oex T.o_NoText T.i_NoText T.t_NoText (ok_init_NoText T) (hr.mono (by decide)) T.bI_NoText .nil passL rfl T.m_NoText (pa_cons (uv 1) pa_nil)))) pss_nil)), ?_⟩
  walk_at "go"
  cases b with
  | true =>
    walk_at "go"
    exact q1 rfl
  | false =>
    walk_at "go"
    exact end_exc1 T.x_NoText T.o_NoText T.n_NoText_row fun d H' e h => q0 rfl d H' e h
theorem vi_law_wood_0 : Vis (defScope s_law_wood) "_law_box_here" := by first | exact Or.inl (by decide +kernel) | exact Or.inr (Or.inl (by decide +kernel)) | exact Or.inr (Or.inr (by decide +kernel))
theorem vi_law_wood_1 : Vis (defScope s_law_wood) "_law_most" := by first | exact Or.inl (by decide +kernel) | exact Or.inr (Or.inl (by decide +kernel)) | exact Or.inr (Or.inr (by decide +kernel))
theorem vi_law_wood_2 : Vis (defScope s_law_wood) "_law_plain" := by first | exact Or.inl (by decide +kernel) | exact Or.inr (Or.inl (by decide +kernel)) | exact Or.inr (Or.inr (by decide +kernel))
theorem vi_law_wood_3 : Vis (defScope s_law_wood) "_law_many" := by first | exact Or.inl (by decide +kernel) | exact Or.inr (Or.inl (by decide +kernel)) | exact Or.inr (Or.inr (by decide +kernel))
theorem vi_law_wood_4 : Vis (defScope s_law_wood) "_law_kinds" := by first | exact Or.inl (by decide +kernel) | exact Or.inr (Or.inl (by decide +kernel)) | exact Or.inr (Or.inr (by decide +kernel))
theorem vi_law_wood_5 : Vis (defScope s_law_wood) "_law_some" := by first | exact Or.inl (by decide +kernel) | exact Or.inr (Or.inl (by decide +kernel)) | exact Or.inr (Or.inr (by decide +kernel))
theorem vi_law_wood_6 : Vis (defScope s_law_wood) "_law_names_here" := by first | exact Or.inl (by decide +kernel) | exact Or.inr (Or.inl (by decide +kernel)) | exact Or.inr (Or.inr (by decide +kernel))
theorem vi_law_wood_7 : Vis (defScope s_law_wood) "_law_rows" := by first | exact Or.inl (by decide +kernel) | exact Or.inr (Or.inl (by decide +kernel)) | exact Or.inr (Or.inr (by decide +kernel))
theorem vi_law_wood_8 : Vis (defScope s_law_wood) "_law_k" := by first | exact Or.inl (by decide +kernel) | exact Or.inr (Or.inl (by decide +kernel)) | exact Or.inr (Or.inr (by decide +kernel))
theorem vi_law_wood_9 : Vis (defScope s_law_wood) "_law_name" := by first | exact Or.inl (by decide +kernel) | exact Or.inr (Or.inl (by decide +kernel)) | exact Or.inr (Or.inr (by decide +kernel))
theorem vi_law_wood_10 : Vis (defScope s_law_wood) "_law_kind" := by first | exact Or.inl (by decide +kernel) | exact Or.inr (Or.inl (by decide +kernel)) | exact Or.inr (Or.inr (by decide +kernel))
theorem vi_law_wood_11 : Vis (defScope s_law_wood) "_law_wide" := by first | exact Or.inl (by decide +kernel) | exact Or.inr (Or.inl (by decide +kernel)) | exact Or.inr (Or.inr (by decide +kernel))
theorem vi_law_wood_12 : Vis (defScope s_law_wood) "_law_parts" := by first | exact Or.inl (by decide +kernel) | exact Or.inr (Or.inl (by decide +kernel)) | exact Or.inr (Or.inr (by decide +kernel))
theorem lo_law_wood_2 : Loc (defScope s_law_wood) "_law_plain" := by first | exact Or.inl (by decide +kernel) | exact Or.inr (by decide +kernel)
theorem lo_law_wood_3 : Loc (defScope s_law_wood) "_law_many" := by first | exact Or.inl (by decide +kernel) | exact Or.inr (by decide +kernel)
theorem lo_law_wood_4 : Loc (defScope s_law_wood) "_law_kinds" := by first | exact Or.inl (by decide +kernel) | exact Or.inr (by decide +kernel)
theorem lo_law_wood_5 : Loc (defScope s_law_wood) "_law_some" := by first | exact Or.inl (by decide +kernel) | exact Or.inr (by decide +kernel)
theorem lo_law_wood_6 : Loc (defScope s_law_wood) "_law_names_here" := by first | exact Or.inl (by decide +kernel) | exact Or.inr (by decide +kernel)
theorem lo_law_wood_8 : Loc (defScope s_law_wood) "_law_k" := by first | exact Or.inl (by decide +kernel) | exact Or.inr (by decide +kernel)
theorem lo_law_wood_9 : Loc (defScope s_law_wood) "_law_name" := by first | exact Or.inl (by decide +kernel) | exact Or.inr (by decide +kernel)
theorem lo_law_wood_12 : Loc (defScope s_law_wood) "_law_parts" := by first | exact Or.inl (by decide +kernel) | exact Or.inr (by decide +kernel)
theorem ok_law_wood (T : Txt K mg) : FnOk P w K mg base (L2.CX P w) 3 T.a_law_wood T.d_law_wood ["_law_box_here", "_law_most"] spWood := by
  refine T.F_law_wood.okX sc_law_wood (fun vs H Q E h => ?_) (fun cdv A outer s H vs Q E hr h => ?_)
  · obtain ⟨_, rfl, _⟩ := h
    rfl
  obtain ⟨p, rfl, hb, q⟩ := h
  refine ⟨_, (pss_cons (ps_asg (pe_tup (pa_cons (pe_callD (ok_law_take T) (hr.mono (by decide)) rfl T.m_law_take T.F_law_take.kp T.b_law_take .nil (fun σ => passAt (takes_of rfl rfl rfl rfl) σ) (pa_cons (uv 0 (hv := vi_law_wood_0)) (pa_cons pe_int pa_nil))) (pa_cons (pe_op uo_add pe_int (pe_ix ux_seq (pe_lst (pa_cons pe_int (pa_cons pe_int (pa_cons pe_int (pa_cons pe_int (pa_cons pe_int (pa_cons pe_int pa_nil))))))) (pe_callD (ok_law_take T) (hr.mono (by decide)) rfl T.m_law_take T.F_law_take.kp T.b_law_take .nil (fun σ => passAt (takes_of rfl rfl rfl rfl) σ) (pa_cons (uv 0 (hv := vi_law_wood_0)) (pa_cons pe_int pa_nil))) (fun _ _ => rfl))) pa_nil))) (pg_tup rfl (pgs_cons (pg_name (i := 2) sc_law_wood.nd rfl lo_law_wood_2) (pgs_cons (pg_name (i := 3) sc_law_wood.nd rfl lo_law_wood_3) pgs_nil))))
      (pss_cons (ps_asg (pe_tup (pa_cons (pe_callD (ok_law_names T) (hr.mono (by decide)) rfl T.m_law_names T.F_law_names.kp T.b_law_names .nil (fun σ => passAt (takes_of rfl rfl rfl rfl) σ) (pa_cons (uv 0 (hv := vi_law_wood_0)) (pa_cons (uv 3 (hv := vi_law_wood_3)) pa_nil))) (pa_cons (pe_op uo_mul (pe_op uo_add pe_int (pe_callD (ok_law_take T) (hr.mono (by decide)) rfl T.m_law_take T.F_law_take.kp T.b_law_take .nil (fun σ => passAt (takes_of rfl rfl rfl rfl) σ) (pa_cons (uv 0 (hv := vi_law_wood_0)) (pa_cons (uv 1 (hv := vi_law_wood_1)) pa_nil)))) (pe_callTy uk_int rfl T.z_int boot_int (pa_cons (pe_cmpR uo_gt (pe_callD (ok_law_take T) (hr.mono (by decide)) rfl T.m_law_take T.F_law_take.kp T.b_law_take .nil (fun σ => passAt (takes_of rfl rfl rfl rfl) σ) (pa_cons (uv 0 (hv := vi_law_wood_0)) (pa_cons pe_int pa_nil))) pe_int (nomark _)) pa_nil))) pa_nil))) (pg_tup rfl (pgs_cons (pg_name (i := 4) sc_law_wood.nd rfl lo_law_wood_4) (pgs_cons (pg_name (i := 5) sc_law_wood.nd rfl lo_law_wood_5) pgs_nil))))
      (pss_cons (ps_set (i := 6) sc_law_wood.nd rfl lo_law_wood_6 (pe_callD (ok_law_names T) (hr.mono (by decide)) rfl T.m_law_names T.F_law_names.kp T.b_law_names .nil (fun σ => passAt (takes_of rfl rfl rfl rfl) σ) (pa_cons (uv 0 (hv := vi_law_wood_0)) (pa_cons (uv 5 (hv := vi_law_wood_5)) pa_nil))))
      (pss_cons (ps_setLc (i := 7) (own := [("_law_k", 8)]) (g := gName 8) rfl sc_law_wood.nd rfl rfl (sw_true rfl rfl rfl (by decide +kernel)) (pi_range1 rfl T.z_range (pa_cons (uv 3 (hv := vi_law_wood_3)) pa_nil)) (blkOk_by (own := [("_law_k", 8)]) (N := N_law_wood) (sc := defScope s_law_wood) (by decide +kernel)) (fun _ _ _ _ _ => (pg_name (i := 8) sc_law_wood.nd rfl (by first | exact Or.inl rfl | exact Or.inr rfl))) (fun _ _ _ _ _ => pts_nil) (fun _ _ _ _ _ => (pe_lst pa_nil)))
      (pss_cons (ps_for (passes_of rfl) rfl (ui_enum rfl T.z_enumerate (pa_cons (uv 6 (hv := vi_law_wood_6)) pa_nil)) (pg_tup rfl (pgs_cons (pg_name (i := 8) sc_law_wood.nd rfl lo_law_wood_8) (pgs_cons (pg_name (i := 9) sc_law_wood.nd rfl lo_law_wood_9) pgs_nil))) (pss_cons (ps_par (i := 10) (j := 11) rfl sc_law_wood.nd rfl rfl (by decide) rfl rfl (pa_cons (pe_callD (ok_law_take T) (hr.mono (by decide)) rfl T.m_law_take T.F_law_take.kp T.b_law_take .nil (fun σ => passAt (takes_of rfl rfl rfl rfl) σ) (pa_cons (uv 0 (hv := vi_law_wood_0)) (pa_cons (uv 3 (hv := vi_law_wood_3)) pa_nil))) (pa_cons (pe_ix ux_seq (pe_lst (pa_cons pe_int (pa_cons pe_int (pa_cons pe_int (pa_cons pe_int (pa_cons pe_int (pa_cons pe_int pa_nil))))))) (pe_callD (ok_law_take T) (hr.mono (by decide)) rfl T.m_law_take T.F_law_take.kp T.b_law_take .nil (fun σ => passAt (takes_of rfl rfl rfl rfl) σ) (pa_cons (uv 0 (hv := vi_law_wood_0)) (pa_cons pe_int pa_nil))) (fun _ _ => rfl)) pa_nil)) rfl)
      (pss_cons (ps_set (i := 12) sc_law_wood.nd rfl lo_law_wood_12 (pe_callTy uk_tup rfl T.z_tuple boot_tuple (pa_cons (pe_lc (own := [("_law_j", 13)]) (g := gName 13) rfl sc_law_wood.nd (pi_range1 rfl T.z_range (pa_cons (uv 11 (hv := vi_law_wood_11)) pa_nil)) (blkOk_by (own := [("_law_j", 13)]) (N := N_law_wood) (sc := defScope s_law_wood) (by decide +kernel)) (fun _ _ _ _ _ => (pg_name (i := 13) sc_law_wood.nd rfl (by first | exact Or.inl rfl | exact Or.inr rfl))) (fun _ _ _ _ _ => pts_nil) (fun _ _ _ _ _ => (pe_ix (show IxR _ (uIx K) from ux_seq) (uv 4) (pe_callD (ok_law_take T) (hr.mono (by decide)) rfl T.m_law_take T.F_law_take.kp T.b_law_take .nil (fun _ => passAt0) (pa_cons (uv 0) (pa_cons (uv 3) pa_nil))) (fun _ _ => rfl)))) pa_nil)))
      (C8.pss_cut (ps_if (PW.pt (pw_and (pt_cmpR uo_gt (uv 2 (hv := vi_law_wood_2)) pe_int (nomark _)) (pw_and1 (pt_cmpR uo_lt (uv 8 (hv := vi_law_wood_8)) (uv 3 (hv := vi_law_wood_3)) (nomark _))))) (pss_one (ps_par (i := 10) (j := 12) rfl sc_law_wood.nd rfl rfl (by decide) rfl rfl (pa_cons (uv 8 (hv := vi_law_wood_8)) (pa_cons (pe_tup pa_nil) pa_nil)) rfl)) pss_nil)
      (pss_one (ps_expr (pe_bm PySem.F.plainAttrs_list PySem.F.slot_list_append PySem.F.type_list_append mt_append (pe_ix ux_seq (uv 7 (hv := vi_law_wood_7)) (uv 10 (hv := vi_law_wood_10)) (fun _ _ => rfl)) (pa_cons (pe_tup (pa_cons (uv 9 (hv := vi_law_wood_9)) (pa_cons (uv 12 (hv := vi_law_wood_12)) pa_nil))) pa_nil))))))))
      (pss_one (ps_ret (pe_callTy uk_tup rfl T.z_tuple boot_tuple (pa_cons (pe_lc (own := [("_law_kind", 10), ("_law_row", 14)]) (g := gTup K 2 (gCons (gName 10) (gCons (gName 14) gNil))) rfl sc_law_wood.nd (RZ.pi_zipA rfl T.z_zip (pa_cons (uv 4 (hv := vi_law_wood_4)) (pa_cons (uv 7 (hv := vi_law_wood_7)) pa_nil))) (blkOk_by (own := [("_law_kind", 10), ("_law_row", 14)]) (N := N_law_wood) (sc := defScope s_law_wood) (by decide +kernel)) (fun _ _ _ _ _ => (pg_tup rfl (pgs_cons (pg_name (i := 10) sc_law_wood.nd rfl (by first | exact Or.inl rfl | exact Or.inr rfl)) (pgs_cons (pg_name (i := 14) sc_law_wood.nd rfl (by first | exact Or.inl rfl | exact Or.inr rfl)) pgs_nil)))) (fun _ _ _ _ _ => pts_nil) (fun _ _ _ _ _ => (pe_tup (pa_cons (uv 10) (pa_cons (pe_callTy (show CallR _ (.type "tuple") (uTup K) from uk_tup) rfl T.z_tuple boot_tuple (pa_cons (uv 14) pa_nil)) pa_nil))))) pa_nil))))))))), ?_⟩
  walk_at "go"
  refine ⟨p, 5, rfl, hb, by decide, by decide, fun pl H1 pl0 pl1 b1 hb1 => ?_⟩
  walk_at "go"
  refine g_new fun l1 hl1 => ?_
  walk_at "go"
  have n1 := hb1.ne hl1
  refine ⟨p, 6, rfl, hb1.at_upd n1, by decide, by decide, fun d H3 d0 d1 b3 hb3 => ?_⟩
  have l3 := b3 _ _ n1 (@upd_same H1 l1 (.lst [.int 0, .int 0, .int 1, .int 1, .int 2, .int 3]))
  have ev : ∃ m : Nat, atI [V.int 0, .int 0, .int 1, .int 1, .int 2, .int 3] d = some (.int (m : Nat)) ∧ m ≤ 3 := by
    have z : d = 0 ∨ d = 1 ∨ d = 2 ∨ d = 3 ∨ d = 4 ∨ d = 5 := by omega
    rcases z with rfl | rfl | rfl | rfl | rfl | rfl
    · exact ⟨0, rfl, by decide⟩
    · exact ⟨0, rfl, by decide⟩
    · exact ⟨1, rfl, by decide⟩
    · exact ⟨1, rfl, by decide⟩
    · exact ⟨2, rfl, by decide⟩
    · exact ⟨3, rfl, by decide⟩
  obtain ⟨m, em, hm3⟩ := ev
  walk_at "go"
  refine g_ixL l3 em ?_
  have em2 : (1 + (m : Int)) = ((m + 1 : Nat) : Int) := by omega
  walk_at "go"
  rw [em2]
  refine g_new fun tt0 htt0 => ?_
  have e3x := Ex.new (o := .tup [.int pl, .int ((m + 1 : Nat) : Int)]) htt0
  have hb3x := hb3.at_upd (o := .tup [.int pl, .int ((m + 1 : Nat) : Int)]) (hb3.ne htt0)
  refine g_tup2 upd_same ?_
  revert e3x hb3x
  generalize upd H3 tt0 (.tup [.int pl, .int ((m + 1 : Nat) : Int)]) = H3x
  intro e3x hb3x
  have bA : But p H H3x := ((b1.trans ((Ex.new hl1).but p)).trans b3).trans (e3x.but p)
  walk_at "go"
  refine ⟨p, m + 1, rfl, hb3x, by omega, fun kl ks H4 hksl hkn hkd hkl0 b4 hb4 hk4 => ?_⟩
  walk_at "go"
  refine ⟨p, 12, rfl, hb4, by decide, by decide, fun a H5 a0 a1 b5 hb5 => ?_⟩
  walk_at "go"
  refine ⟨p, 16, rfl, hb5, by decide, by decide, fun c H6 c0 c1 b6 hb6 => ?_⟩
  have esm : ∃ sm : Nat, (1 + a) * b2z (decide (0 < c)) = (sm : Int) ∧ sm ≤ 12 := by
    by_cases k : 0 < c
    · rw [decide_eq_true k]
      exact ⟨(1 + a).toNat, by show (1 + a) * 1 = _; omega, by omega⟩
    · rw [decide_eq_false k]
      exact ⟨0, by show (1 + a) * 0 = _; omega, by decide⟩
  obtain ⟨sm, esm, hsm⟩ := esm
  have cmA : CMm (1 + a) (b2z (decide (0 < c))) := (show Bits 10 (1 + a) from by unfold Bits; omega).cm (b2z_bits _)
  walk_at "go"
  rw [esm]
  walk_at "go"
  refine g_new fun tt htt => ?_
  have e7x := Ex.new (o := .tup [.ref kl, .int (sm : Nat)]) htt
  have hb7x := hb6.at_upd (o := .tup [.ref kl, .int (sm : Nat)]) (hb6.ne htt)
  refine g_tup2 upd_same ?_
  revert e7x hb7x
  generalize upd H6 tt (.tup [.ref kl, .int (sm : Nat)]) = H6x
  intro e7x hb7x
  walk_at "go"
  refine ⟨p, sm, rfl, hb7x, hsm, fun nl ns H7 hnsl hnn hnd hnl0 b7 hb7 hn7 => ?_⟩
  have nkp : kl ≠ p := hb3x.ne hkl0
  have nnp : nl ≠ p := hb7x.ne hnl0
  have hk7 := b7 _ _ nkp (e7x _ _ (b6 _ _ nkp (b5 _ _ nkp hk4)))
  have bB : But p H H7 := (bA.trans b4).trans ((b5.trans b6).trans ((e7x.but p).trans b7))
  walk_at "go"
  refine ⟨_, rfl, by omega, by omega, fun Dr hDr => ?_⟩
  rw [Int.toNat_natCast]
  refine lc_it walk_range (fun i H8 => Ex H7 H8 ∧ ∃ ras : List Addr, H8 Dr = some (.lst (ras.map V.ref)) ∧ ras.length = i ∧ ras.Nodup ∧ ∀ r ∈ ras, H7 r = none ∧ H8 r = some (.lst []) ∧ r ≠ Dr) ⟨Ex.new hDr, [], upd_same, rfl, List.nodup_nil, fun r z => (nomatch z)⟩ (fun _ _ _ _ => trivial) ?_ ?_
  · rintro i x H8 H8' hi ⟨e, ras, hD8, hrl, hrn, hrr⟩ ⟨rfl, rfl⟩
    walk_at "go"
    refine ⟨rfl, ?_⟩
    walk_at "go"
    refine g_new fun r hr8 => ?_
    have nrD : r ≠ Dr := fun z => by rw [z, hD8] at hr8; cases hr8
    refine ⟨_, Ex.new hr8 _ _ hD8, Nat.lt_of_le_of_lt (by rw [List.length_map]; omega : (ras.map V.ref).length ≤ 10) (by decide), (e.trans (Ex.new hr8)).at_new hDr, ras ++ [r], by rw [upd_same, List.map_append]; rfl, by rw [List.length_append, hrl]; rfl, ?_, fun x hx => ?_⟩
    · refine List.nodup_append.2 ⟨hrn, List.nodup_cons.2 ⟨fun z => (nomatch z), List.nodup_nil⟩, fun x hx y hy => ?_⟩
      rw [List.mem_singleton.1 hy]
      intro z
      have := (hrr x hx).2.1
      rw [z, hr8] at this
      cases this
    · rcases List.mem_append.1 hx with hx | hx
      · obtain ⟨a1, a2, a3⟩ := hrr x hx
        exact ⟨a1, by rw [upd_ne a3]; exact Ex.new hr8 _ _ a2, a3⟩
      · rw [List.mem_singleton.1 hx]
        exact ⟨e.free hr8, by rw [upd_ne nrD]; exact upd_same, nrD⟩
  rintro H8 ⟨e8, ras, hD8, hrl, hrn, hrr⟩
  have nDp : Dr ≠ p := hb7.ne hDr
  have nrp : ∀ r ∈ ras, r ≠ p := fun r hr' => hb7.ne (hrr r hr').1
  have nrk : ∀ r ∈ ras, kl ≠ r := fun r hr' z => by rw [z, (hrr r hr').1] at hk7; cases hk7
  have nrn : ∀ r ∈ ras, nl ≠ r := fun r hr' z => by rw [z, (hrr r hr').1] at hn7; cases hn7
  have bC : But p H H8 := bB.trans (e8.but p)
  have hr0 : ∀ r ∈ ras, H r = none := fun r hr' => by
    cases c : H r with
    | none => rfl
    | some o =>
      have := bB _ _ (nrp r hr') c
      rw [(hrr r hr').1] at this
      cases this
  walk_at "go"
  refine g_enL ?_
  walk_at "go"
  refine ⟨_, _, rfl, sqL (e8 _ _ hn7), ?_⟩
  refine for_it walk_enum (fun i σ H9 => (∃ o8 o9 o10 o11 o12, σ = [some (.ref p), some (.int 12), some (.int pl), some (.int ((m + 1 : Nat) : Int)), some (.ref kl), some (.int (sm : Nat)), some (.ref nl), some (.ref Dr), o8, o9, o10, o11, o12, none, none]) ∧ But p H H9 ∧ Box H9 p ∧ H9 kl = some (.lst (ks.map V.str)) ∧ H9 nl = some (.lst (ns.map V.str)) ∧ H9 Dr = some (.lst (ras.map V.ref)) ∧ ∃ R, Rows H9 ras R ∧ R.length = m + 1 ∧ (∀ r ∈ R, ∀ k ∈ r, MkOk ks k) ∧ (rowNames R).Perm (ns.take i))
    ⟨⟨_, _, _, _, _, rfl⟩, bC, hb7.ex e8, e8 _ _ hk7, e8 _ _ hn7, hD8, List.replicate (m + 1) [], ⟨by rw [hrl, List.length_replicate], hrn, fun j a r ha hr' => ?_⟩, List.length_replicate, fun r hr' k hk' => ?_, ?_⟩ (fun i σ H9 _ h => sqL h.2.2.2.2.1) ?_ ?_
  · have z : r = [] := by
      have := List.mem_of_getElem? hr'
      exact (List.mem_replicate.1 this).2
    subst z
    exact ⟨[], (hrr a (List.mem_of_getElem? ha)).2.1, by simp only [List.map, Reps]⟩
  · rw [(List.mem_replicate.1 hr').2] at hk'
    cases hk'
  · have z : ∀ n, rowNames (List.replicate n []) = [] := fun n => by
      induction n with
      | zero => rfl
      | succ n ih => exact ih
    rw [z]
    exact List.Perm.refl _
  · rintro i x σ H9 H9' hi ⟨⟨o8, o9, o10, o11, o12, rfl⟩, b9, hb9, hk9, hn9, hD9, R, hR, hRl, hRm, hRp⟩ ⟨t, y, z, rfl, ht, rfl, ey, ez⟩
    cases ey
    replace ez : (ns.map V.str)[i]? = some z := ez
    rw [List.getElem?_map] at ez
    cases en : ns[i]? with
    | none => rw [en] at ez; cases ez
    | some n =>
    rw [en] at ez
    cases ez
    have hnn' := hnn n (List.mem_of_getElem? en)
    refine g_tup2 upd_same ?_
    have bx : But p H9 (upd H9 t (.tup [.int (i : Nat), .str n])) := (Ex.new ht).but p
    have hbx := hb9.at_upd (o := .tup [.int (i : Nat), .str n]) (hb9.ne ht)
    revert bx hbx
    generalize upd H9 t (.tup [.int (i : Nat), .str n]) = H10
    intro bx hbx
    walk_at "go"
    refine ⟨p, _, rfl, hbx, by omega, Nat.lt_of_lt_of_le (Bits.log (n := 10) (show (((m + 1 : Nat) : Int)).natAbs < 2 ^ 10 by omega)) (by decide), fun kd H11 kd0 kd1 b11 hb11 => ?_⟩
    walk_at "go"
    refine g_new fun l2 hl2 => ?_
    walk_at "go"
    have n2 := hb11.ne hl2
    refine ⟨p, 6, rfl, hb11.at_upd n2, by decide, by decide, fun d2 H12 d20 d21 b12 hb12 => ?_⟩
    have l12 := b12 _ _ n2 (@upd_same H11 l2 (.lst [.int 0, .int 0, .int 1, .int 1, .int 2, .int 2]))
    have ev : ∃ wi : Nat, atI [V.int 0, .int 0, .int 1, .int 1, .int 2, .int 2] d2 = some (.int (wi : Nat)) ∧ wi ≤ 2 := by
      have z : d2 = 0 ∨ d2 = 1 ∨ d2 = 2 ∨ d2 = 3 ∨ d2 = 4 ∨ d2 = 5 := by omega
      rcases z with rfl | rfl | rfl | rfl | rfl | rfl
      · exact ⟨0, rfl, by decide⟩
      · exact ⟨0, rfl, by decide⟩
      · exact ⟨1, rfl, by decide⟩
      · exact ⟨1, rfl, by decide⟩
      · exact ⟨2, rfl, by decide⟩
      · exact ⟨2, rfl, by decide⟩
    obtain ⟨wi, ewi, hwi⟩ := ev
    have b912 : But p H9 H12 := (bx.trans b11).trans (((Ex.new hl2).but p).trans b12)
    walk_at "go"
    refine g_ixL l12 ewi ?_
    walk_at "go"
    refine ⟨_, rfl, by omega, by omega, fun D2 hD2 => ?_⟩
    rw [Int.toNat_natCast]
    refine lc_mapB walk_range p (fun _ _ v => ∃ s, v = V.str s ∧ s ∈ ks) (by omega) hD2 hb12 (fun _ _ _ _ _ r => r) (fun _ _ => trivial) ?_ ?_
    · rintro j x H13 H13' P N hj e13 hb13 ⟨rfl, rfl⟩ k
      walk_at "go"
      refine ⟨rfl, ?_⟩
      walk_at "go"
      refine ⟨p, _, rfl, hb13, by omega, Nat.lt_of_lt_of_le (Bits.log (n := 10) (show (((m + 1 : Nat) : Int)).natAbs < 2 ^ 10 by omega)) (by decide), fun j2 H14 j20 j21 b14 hb14 => ?_⟩
      walk_at "go"
      obtain ⟨s, es, hs⟩ := atI_strs (ss := ks) j20 (by omega)
      refine g_ixL (b14 _ _ nkp (e13 _ _ nkp (b912 _ _ nkp hk9))) es ?_
      exact k _ _ b14 hb14 ⟨s, rfl, hs⟩
    intro H13 acc e13 hb13 hacc hla hr2
    obtain ⟨ps, rfl, hpl, hpp⟩ := acc_strs hla hr2
    walk_at "go"
    refine g_tupOf hacc fun t2 ht2 => ?_
    have b914 : But p H9 (upd H13 t2 (.tup (ps.map V.str))) := (b912.trans e13).trans ((Ex.new ht2).but p)
    have hb14 := hb13.at_upd (o := .tup (ps.map V.str)) (hb13.ne ht2)
    have h14 := @upd_same H13 t2 (.tup (ps.map V.str))
    revert b914 hb14 h14
    generalize upd H13 t2 (.tup (ps.map V.str)) = H14
    intro b914 hb14 h14
    walk_at "go"
    obtain ⟨kq, rfl⟩ := Int.eq_ofNat_of_zero_le kd0
    refine ⟨fun σ' H' => ∃ (qd : Nat) (pa : Addr) (ps : List Str), qd < m + 1 ∧ σ' = [some (.ref p), some (.int 12), some (.int pl), some (.int ((m + 1 : Nat) : Int)), some (.ref kl), some (.int (sm : Nat)), some (.ref nl), some (.ref Dr), some (.int (i : Nat)), some (.str n), some (.int (qd : Nat)), some (.int (wi : Nat)), some (.ref pa), none, none] ∧ H' pa = some (.tup (ps.map V.str)) ∧ ps.length ≤ 2 ∧ (∀ s ∈ ps, s ∈ ks) ∧ But p H9 H' ∧ Box H' p, ?_, ?_⟩
    · have here : ∃ (qd : Nat) (pa : Addr) (ps' : List Str), qd < m + 1 ∧ [some (V.ref p), some (.int 12), some (.int pl), some (.int ((m + 1 : Nat) : Int)), some (.ref kl), some (.int (sm : Nat)), some (.ref nl), some (.ref Dr), some (.int (i : Nat)), some (.str n), some (.int (kq : Nat)), some (.int (wi : Nat)), some (.ref t2), none, none] = [some (.ref p), some (.int 12), some (.int pl), some (.int ((m + 1 : Nat) : Int)), some (.ref kl), some (.int (sm : Nat)), some (.ref nl), some (.ref Dr), some (.int (i : Nat)), some (.str n), some (.int (qd : Nat)), some (.int (wi : Nat)), some (.ref pa), none, none] ∧ H14 pa = some (.tup (ps'.map V.str)) ∧ ps'.length ≤ 2 ∧ (∀ s ∈ ps', s ∈ ks) ∧ But p H9 H14 ∧ Box H14 p :=
        ⟨kq, t2, ps, by omega, rfl, h14, by omega, fun s hs => by
          obtain ⟨j, hj⟩ := List.mem_iff_getElem?.1 hs
          exact hpp j s hj, b914, hb14⟩
      walk_at "go"
      refine i_d (fun c1 => ?_) fun c1 => ?_
      · walk_at "go"
        refine i_d (fun c2 => ?_) fun c2 => ?_
        · walk_at "go"
          refine g_new fun t3 ht3 => ?_
          walk_at "go"
          exact ⟨i, t3, [], by omega, rfl, upd_same, Nat.zero_le _, fun s z => (nomatch z), b914.trans ((Ex.new ht3).but p), hb14.at_upd (hb14.ne ht3)⟩
        · walk_at "go"
          exact here
      · walk_at "go"
        exact here
    clear h14 hb14 b914 hpp hpl hacc hla hr2 e13 hb13 b912 hb12 l12 b12 b11 hb11 bx hbx
    rintro σ' H15 ⟨qd, pa, ps, hqd, rfl, hpa, hps, hpk, b15, hb15⟩
    have D15 := b15 _ _ nDp hD9
    have k15 := b15 _ _ nkp hk9
    have n15 := b15 _ _ nnp hn9
    have R15 : Rows H15 ras R := hR.keep (hb9.tk b15) fun a ha us hu => b15 _ _ (nrp a ha) hu
    obtain ⟨ra, r, us, era, er, hus, hrs⟩ := R15.get (q := qd) (by omega)
    have hram := List.mem_of_getElem? era
    walk_at "go"
    refine g_ixL D15 (atI_nat (j := qd) (by rw [List.getElem?_map, era]; rfl)) ?_
    refine g_tyL hus ?_
    walk_at "go"
    refine g_new fun t3 ht3 => ?_
    have e16 := Ex.new (o := .tup [.str n, .ref pa]) ht3
    have h16 := @upd_same H15 t3 (.tup [.str n, .ref pa])
    have hb16 := hb15.at_upd (o := .tup [.str n, .ref pa]) (hb15.ne ht3)
    revert e16 h16 hb16
    generalize upd H15 t3 (.tup [.str n, .ref pa]) = H16
    intro e16 h16 hb16
    have us16 := e16 _ _ hus
    have R16 : Rows H16 ras R := R15.keep e16.tk fun a ha us hu => e16 _ _ hu
    obtain ⟨us', hu', hrs16⟩ := R16.at_ qd ra r era er
    rw [us16] at hu'
    cases hu'
    have lus : us.length ≤ 12 := by
      have z1 : r.length ≤ (rowNames R).length := by
        have : ∀ (R : List (List Mk)) (q : Nat), R[q]? = some r → r.length ≤ (rowNames R).length := by
          intro R
          induction R with
          | nil => intro q h; simp at h
          | cons s R ih =>
            intro q h
            show _ ≤ (s.map Prod.fst ++ rowNames R).length
            rw [List.length_append, List.length_map]
            cases q with
            | zero => cases h; omega
            | succ q =>
              have := ih q h
              omega
        exact this R qd er
      rw [hRp.length_eq, List.length_take] at z1
      have z2 := hrs16.len
      rw [List.length_map] at z2
      omega
    walk_at "go"
    refine g_app us16 (Nat.lt_of_le_of_lt lus (by decide)) ?_
    have rep : Rep H16 (mkD (n, ps)) (.ref t3) := Rep.two h16 (Rep.s _) (by
      unfold partsD
      simp only [Rep]
      exact ⟨pa, _, rfl, e16 _ _ hpa, strsReps ps⟩)
    have R17 := R16.put era er us16 hrs16 rep
    have mko : MkOk ks (n, ps) := ⟨hnn', hps, hpk⟩
    have b17 : But p H (upd H16 ra (.lst (us ++ [V.ref t3]))) := ((b9.trans b15).trans (e16.but p)).at_new (hr0 ra hram)
    walk_at "go"
    refine ⟨⟨_, _, _, _, _, rfl⟩, b17, hb16.at_upd (nrp ra hram), ?_, ?_, ?_, _, R17, by rw [List.length_set]; exact hRl, fun r' hr' k hk' => ?_, ?_⟩
    · rw [upd_ne (nrk ra hram)]
      exact e16 _ _ k15
    · rw [upd_ne (nrn ra hram)]
      exact e16 _ _ n15
    · rw [upd_ne (Ne.symm (hrr ra hram).2.2)]
      exact e16 _ _ D15
    · rcases List.mem_or_eq_of_mem_set hr' with hr' | rfl
      · exact hRm r' hr' k hk'
      · rcases List.mem_append.1 hk' with hk' | hk'
        · exact hRm r (List.mem_of_getElem? er) k hk'
        · rw [List.mem_singleton.1 hk']
          exact mko
    · refine (rowNames_put R qd r (n, ps) er).trans ?_
      rw [List.take_add_one, en]
      exact List.Perm.append_right _ hRp
  · rintro σ H9 ⟨⟨o8, o9, o10, o11, o12, rfl⟩, b9, hb9, hk9, hn9, hD9, R, hR, hRl, hRm, hRp⟩
    rw [List.length_map, List.take_length] at hRp
    have wok : WoodOk (ks.zip R) := wood_of ⟨by omega, by omega⟩ hkn hkd (by omega) hRm hRp hnd (by omega)
    walk_at "go"
    refine ⟨kl, Dr, _, _, rfl, .inl ⟨sqL hk9, sqL hD9, fun D4 hD4 => ?_⟩⟩
    refine lc_mapE (walk_zip rfl) (fun j H v => ∃ k r, ks[j]? = some k ∧ R[j]? = some r ∧ Rep H (kindD (k, r)) v) (by rw [List.length_map]; omega) hD4 (fun j H H' v t ⟨k, r, a1, a2, a3⟩ => ⟨k, r, a1, a2, a3.tk t (kind_hard _)⟩) (fun H10 e => ⟨sqL (e _ _ hk9), sqL (e _ _ hD9)⟩) ?_ ?_
    · rintro j x H10 H11 P N hj e10 ⟨t, y, z, rfl, ht, rfl, ey, ez⟩ k
      replace ey : (ks.map V.str)[j]? = some y := ey
      replace ez : (ras.map V.ref)[j]? = some z := ez
      rw [List.getElem?_map] at ey ez
      cases ek : ks[j]? with
      | none => rw [ek] at ey; cases ey
      | some kn =>
      rw [ek] at ey
      cases ey
      cases er : ras[j]? with
      | none => rw [er] at ez; cases ez
      | some ra =>
      rw [er] at ez
      cases ez
      have jl : j < R.length := by have := (List.getElem?_eq_some_iff.1 er).1; omega
      obtain ⟨us, hus, hrs⟩ := hR.at_ j ra _ er (List.getElem?_eq_getElem jl)
      have e11 := Ex.new (o := .tup [.str kn, .ref ra]) ht
      refine g_tup2 upd_same ?_
      walk_at "go"
      refine ⟨rfl, ?_⟩
      walk_at "go"
      refine g_tupOf (e11 _ _ (e10 _ _ hus)) fun t2 ht2 => ?_
      walk_at "go"
      refine g_new fun t3 ht3 => ?_
      have e12 := (Ex.new (o := .tup us) ht2).trans (Ex.new (o := .tup [.str kn, .ref t2]) ht3)
      refine k _ _ (e11.trans e12) ⟨kn, R[j], ek, List.getElem?_eq_getElem jl, ?_⟩
      refine Rep.two upd_same (Rep.s _) ?_
      simp only [Rep]
      exact ⟨t2, us, rfl, Ex.new ht3 _ _ upd_same, hrs.tk (((e10.trans e11).trans e12).tk) (mks_hard _)⟩
    · intro H10 acc e10 hacc hla hr2
      have rz := zip_reps ks R acc (by omega) (by rw [hla, List.length_map, List.length_map]; omega) hr2
      walk_at "go"
      refine g_tupOf hacc fun t5 ht5 => ?_
      have e11 := e10.trans (Ex.new (o := .tup acc) ht5)
      refine q _ _ _ wok ?_ (b9.trans (e11.but p)) (hb9.ex e11)
      unfold woodD
      simp only [Rep]
      exact ⟨t5, acc, rfl, upd_same, rz.ex (Ex.new ht5)⟩
theorem vi_law_reader_0 : Vis (defScope s_law_reader) "_law_box_here" := by first | exact Or.inl (by decide +kernel) | exact Or.inr (Or.inl (by decide +kernel)) | exact Or.inr (Or.inr (by decide +kernel))
theorem vi_law_reader_1 : Vis (defScope s_law_reader) "_law_wood_here" := by first | exact Or.inl (by decide +kernel) | exact Or.inr (Or.inl (by decide +kernel)) | exact Or.inr (Or.inr (by decide +kernel))
theorem vi_law_reader_2 : Vis (defScope s_law_reader) "_law_counts" := by first | exact Or.inl (by decide +kernel) | exact Or.inr (Or.inl (by decide +kernel)) | exact Or.inr (Or.inr (by decide +kernel))
theorem vi_law_reader_3 : Vis (defScope s_law_reader) "_law_rules" := by first | exact Or.inl (by decide +kernel) | exact Or.inr (Or.inl (by decide +kernel)) | exact Or.inr (Or.inr (by decide +kernel))
theorem vi_law_reader_5 : Vis (defScope s_law_reader) "_law_kind" := by first | exact Or.inl (by decide +kernel) | exact Or.inr (Or.inl (by decide +kernel)) | exact Or.inr (Or.inr (by decide +kernel))
theorem vi_law_reader_6 : Vis (defScope s_law_reader) "_law_parts" := by first | exact Or.inl (by decide +kernel) | exact Or.inr (Or.inl (by decide +kernel)) | exact Or.inr (Or.inr (by decide +kernel))
theorem vi_law_reader_7 : Vis (defScope s_law_reader) "_law_sums" := by first | exact Or.inl (by decide +kernel) | exact Or.inr (Or.inl (by decide +kernel)) | exact Or.inr (Or.inr (by decide +kernel))
theorem vi_law_reader_9 : Vis (defScope s_law_reader) "_law_terms" := by first | exact Or.inl (by decide +kernel) | exact Or.inr (Or.inl (by decide +kernel)) | exact Or.inr (Or.inr (by decide +kernel))
theorem vi_law_reader_11 : Vis (defScope s_law_reader) "_law_picks" := by first | exact Or.inl (by decide +kernel) | exact Or.inr (Or.inl (by decide +kernel)) | exact Or.inr (Or.inr (by decide +kernel))
theorem vi_law_reader_12 : Vis (defScope s_law_reader) "_law_term" := by first | exact Or.inl (by decide +kernel) | exact Or.inr (Or.inl (by decide +kernel)) | exact Or.inr (Or.inr (by decide +kernel))
theorem lo_law_reader_2 : Loc (defScope s_law_reader) "_law_counts" := by first | exact Or.inl (by decide +kernel) | exact Or.inr (by decide +kernel)
theorem lo_law_reader_3 : Loc (defScope s_law_reader) "_law_rules" := by first | exact Or.inl (by decide +kernel) | exact Or.inr (by decide +kernel)
theorem lo_law_reader_4 : Loc (defScope s_law_reader) "_law_maker" := by first | exact Or.inl (by decide +kernel) | exact Or.inr (by decide +kernel)
theorem lo_law_reader_5 : Loc (defScope s_law_reader) "_law_kind" := by first | exact Or.inl (by decide +kernel) | exact Or.inr (by decide +kernel)
theorem lo_law_reader_6 : Loc (defScope s_law_reader) "_law_parts" := by first | exact Or.inl (by decide +kernel) | exact Or.inr (by decide +kernel)
theorem lo_law_reader_7 : Loc (defScope s_law_reader) "_law_sums" := by first | exact Or.inl (by decide +kernel) | exact Or.inr (by decide +kernel)
theorem lo_law_reader_8 : Loc (defScope s_law_reader) "_law_k" := by first | exact Or.inl (by decide +kernel) | exact Or.inr (by decide +kernel)
theorem lo_law_reader_9 : Loc (defScope s_law_reader) "_law_terms" := by first | exact Or.inl (by decide +kernel) | exact Or.inr (by decide +kernel)
theorem lo_law_reader_10 : Loc (defScope s_law_reader) "_law_j" := by first | exact Or.inl (by decide +kernel) | exact Or.inr (by decide +kernel)
theorem lo_law_reader_12 : Loc (defScope s_law_reader) "_law_term" := by first | exact Or.inl (by decide +kernel) | exact Or.inr (by decide +kernel)
theorem ok_law_reader (T : Txt K mg) : FnOk P w K mg base (L2.CX P w) 3 T.a_law_reader T.d_law_reader ["_law_box_here", "_law_wood_here"] spReader := by
  refine T.F_law_reader.okX sc_law_reader (fun vs H Q E h => ?_) (fun cdv A outer s H vs Q E hr h => ?_)
  · obtain ⟨_, _, _, rfl, _⟩ := h
    rfl
  obtain ⟨p, wd, v, rfl, hb, rv, ok, q⟩ := h
  refine ⟨_, (pss_cons (ps_set (i := 2) sc_law_reader.nd rfl lo_law_reader_2 (pe_callTy uk_tup rfl T.z_tuple boot_tuple (pa_cons (pe_lc (own := [("_law_kind", 5)]) (g := gName 5) rfl sc_law_reader.nd (ui_seq (uv 1 (hv := vi_law_reader_1))) (blkOk_by (own := [("_law_kind", 5)]) (N := N_law_reader) (sc := defScope s_law_reader) (by decide +kernel)) (fun _ _ _ _ _ => (pg_name (i := 5) sc_law_reader.nd rfl (by first | exact Or.inl rfl | exact Or.inr rfl))) (fun _ _ _ _ _ => pts_nil) (fun _ _ _ _ _ => (pe_ix (show IxR _ (uIx K) from ux_seq) (pe_lst (pa_cons pe_int (pa_cons pe_int (pa_cons pe_int (pa_cons pe_int (pa_cons pe_int (pa_cons pe_int (pa_cons pe_int pa_nil)))))))) (pe_callD (ok_law_take T) (hr.mono (by decide)) rfl T.m_law_take T.F_law_take.kp T.b_law_take .nil (fun _ => passAt0) (pa_cons (uv 0) (pa_cons pe_int pa_nil))) (fun _ _ => rfl)))) pa_nil)))
      (pss_cons (ps_set (i := 3) sc_law_reader.nd rfl lo_law_reader_3 (pe_lst pa_nil))
      (pss_cons (ps_for (passes_of rfl) rfl (ui_seq (pe_callD (ok_law_makers T) (hr.mono (by decide)) rfl T.m_law_makers T.F_law_makers.kp T.b_law_makers .nil (fun σ => passAt (takes_of rfl rfl rfl rfl) σ) (pa_cons (uv 1 (hv := vi_law_reader_1)) pa_nil))) (pg_tup rfl (pgs_cons (pg_name (i := 4) sc_law_reader.nd rfl lo_law_reader_4) (pgs_cons (pg_name (i := 5) sc_law_reader.nd rfl lo_law_reader_5) (pgs_cons (pg_name (i := 6) sc_law_reader.nd rfl lo_law_reader_6) pgs_nil)))) (pss_cons (ps_set (i := 7) sc_law_reader.nd rfl lo_law_reader_7 (pe_lst pa_nil))
      (pss_cons (ps_for (passes_of rfl) rfl (pi_range1 rfl T.z_range (pa_cons (pe_ix ux_seq (uv 2 (hv := vi_law_reader_2)) (uv 5 (hv := vi_law_reader_5)) (fun _ _ => rfl)) pa_nil)) (pg_name (i := 8) sc_law_reader.nd rfl lo_law_reader_8) (pss_cons (ps_set (i := 9) sc_law_reader.nd rfl lo_law_reader_9 (pe_lst pa_nil))
      (pss_cons (ps_for (passes_of rfl) rfl (pi_range1 rfl T.z_range (pa_cons (pe_callD (ok_law_take T) (hr.mono (by decide)) rfl T.m_law_take T.F_law_take.kp T.b_law_take .nil (fun σ => passAt (takes_of rfl rfl rfl rfl) σ) (pa_cons (uv 0 (hv := vi_law_reader_0)) (pa_cons (pe_ix ux_seq (pe_lst (pa_cons pe_int (pa_cons pe_int pa_nil))) (pe_callTy uk_int rfl T.z_int boot_int (pa_cons (pe_cmpR op_eq (pe_callD (ok_law_take T) (hr.mono (by decide)) rfl T.m_law_take T.F_law_take.kp T.b_law_take .nil (fun σ => passAt (takes_of rfl rfl rfl rfl) σ) (pa_cons (uv 0 (hv := vi_law_reader_0)) (pa_cons pe_int pa_nil))) pe_int (nomark _)) pa_nil)) (fun _ _ => rfl)) pa_nil))) pa_nil)) (pg_name (i := 10) sc_law_reader.nd rfl lo_law_reader_10) (pss_cons (ps_setLc (i := 11) (own := [("_law_part", 13)]) (g := gName 13) rfl sc_law_reader.nd rfl rfl (sw_true rfl rfl rfl (by decide +kernel)) (ui_seq (uv 6 (hv := vi_law_reader_6))) (blkOk_by (own := [("_law_part", 13)]) (N := N_law_reader) (sc := defScope s_law_reader) (by decide +kernel)) (fun _ _ _ _ _ => (pg_name (i := 13) sc_law_reader.nd rfl (by first | exact Or.inl rfl | exact Or.inr rfl))) (fun _ _ _ _ _ => pts_nil) (fun _ _ _ _ _ => (pe_callD (ok_law_take T) (hr.mono (by decide)) rfl T.m_law_take T.F_law_take.kp T.b_law_take .nil (fun _ => passAt0) (pa_cons (uv 0) (pa_cons (pe_op (show OpR _ (binaryOp .Add) (uAdd K) from uo_add) (pe_ix (show IxR _ (uIx K) from ux_seq) (uv 2) (uv 13) (fun _ _ => rfl)) pe_int) pa_nil)))))
      (pss_cons (ps_set (i := 12) sc_law_reader.nd rfl lo_law_reader_12 (pe_tup (pa_cons (pe_callD (ok_law_fraction T) (hr.mono (by decide)) rfl T.m_law_fraction T.F_law_fraction.kp T.b_law_fraction .nil (fun σ => passAt (takes_of rfl rfl rfl rfl) σ) (pa_cons (uv 0 (hv := vi_law_reader_0)) pa_nil)) (pa_cons (pe_callTy uk_tup rfl T.z_tuple boot_tuple (pa_cons (pe_lc (own := [("_law_pick", 14)]) (g := gName 14) rfl sc_law_reader.nd (ui_seq (uv 11 (hv := vi_law_reader_11))) (blkOk_by (own := [("_law_pick", 14)]) (N := N_law_reader) (sc := defScope s_law_reader) (by decide +kernel)) (fun _ _ _ _ _ => (pg_name (i := 14) sc_law_reader.nd rfl (by first | exact Or.inl rfl | exact Or.inr rfl))) (fun _ _ _ _ _ => pts_nil) (fun _ _ _ _ _ => (pe_ix (show IxR _ (uIx K) from ux_seq) (pe_lst (pa_cons (pe_op uo_sub (uv 14) pe_int) (pa_cons pe_non pa_nil))) (pe_callTy uk_int rfl T.z_int boot_int (pa_cons (pe_cmpR op_eq (uv 14) pe_int (nomark _)) pa_nil)) (fun _ _ => rfl)))) pa_nil)) pa_nil))))
      (C8.pss_cut (ps_if (PW.pt (pw_and (pt_cmpR (op_neD hr.units) (uv 9 (hv := vi_law_reader_9)) (pe_lst pa_nil) (nomark _)) (pw_and1 (pt_cmpR op_eq (pe_callD (ok_law_take T) (hr.mono (by decide)) rfl T.m_law_take T.F_law_take.kp T.b_law_take .nil (fun σ => passAt (takes_of rfl rfl rfl rfl) σ) (pa_cons (uv 0 (hv := vi_law_reader_0)) (pa_cons pe_int pa_nil))) pe_int (nomark _))))) (pss_one (ps_set (i := 12) sc_law_reader.nd rfl lo_law_reader_12 (pe_ix ux_seq (uv 9 (hv := vi_law_reader_9)) (pe_callD (ok_law_take T) (hr.mono (by decide)) rfl T.m_law_take T.F_law_take.kp T.b_law_take .nil (fun σ => passAt (takes_of rfl rfl rfl rfl) σ) (pa_cons (uv 0 (hv := vi_law_reader_0)) (pa_cons (pe_callB uk_len rfl T.z_len boot_len (pa_cons (uv 9 (hv := vi_law_reader_9)) pa_nil)) pa_nil))) (fun _ _ => rfl)))) pss_nil)
      (pss_one (ps_expr (pe_bm PySem.F.plainAttrs_list PySem.F.slot_list_append PySem.F.type_list_append mt_append (uv 9 (hv := vi_law_reader_9)) (pa_cons (uv 12 (hv := vi_law_reader_12)) pa_nil))))))))
      (pss_one (ps_expr (pe_bm PySem.F.plainAttrs_list PySem.F.slot_list_append PySem.F.type_list_append mt_append (uv 7 (hv := vi_law_reader_7)) (pa_cons (pe_callTy uk_tup rfl T.z_tuple boot_tuple (pa_cons (uv 9 (hv := vi_law_reader_9)) pa_nil)) pa_nil)))))))
      (pss_one (ps_expr (pe_bm PySem.F.plainAttrs_list PySem.F.slot_list_append PySem.F.type_list_append mt_append (uv 3 (hv := vi_law_reader_3)) (pa_cons (pe_callTy uk_tup rfl T.z_tuple boot_tuple (pa_cons (uv 7 (hv := vi_law_reader_7)) pa_nil)) pa_nil)))))))
      (pss_one (ps_ret (pe_tup (pa_cons (uv 2 (hv := vi_law_reader_2)) (pa_cons (pe_callTy uk_tup rfl T.z_tuple boot_tuple (pa_cons (uv 3 (hv := vi_law_reader_3)) pa_nil)) pa_nil)))))))), ?_⟩
  obtain ⟨wa, wx, rfl, hwa, rs⟩ := id rv.tupI
  have lx : wx.length = wd.length := by rw [rs.len, List.length_map]
  have pk := ok.kinds
  have k0 := Kp.refl hb
  have nwa : wa ≠ p := hb.tkne (Ex.refl _) hwa
  walk_at "go"
  refine g_seqTs ?_
  walk_at "go"
  refine ⟨_, rfl, ⟨wx, sqT hwa⟩, fun D hD => ?_⟩
  refine lc_mapB walk_tup p (fun _ _ v => ∃ c : Int, v = V.int c ∧ 0 ≤ c ∧ c ≤ 4) (by omega) hD hb (fun _ _ _ _ _ r => r) (fun H8 b => sqT (b _ _ nwa hwa)) ?_ ?_
  · rintro u y H8 H9 P N hu b8 hb8 ⟨rfl, hy⟩ k
    walk_at "go"
    refine ⟨rfl, ?_⟩
    walk_at "go"
    refine g_new fun l hl => ?_
    have n1 := hb8.ne hl
    walk_at "go"
    refine ⟨p, 7, rfl, hb8.at_upd n1, by decide, by decide, fun d H10 d0 d1 b10 hb10 => ?_⟩
    have y1 := b10 _ _ n1 upd_same
    have ev : ∃ c : Int, atI [V.int 0, .int 1, .int 1, .int 2, .int 2, .int 3, .int 4] d = some (.int c) ∧ 0 ≤ c ∧ c ≤ 4 := by
      have z : d = 0 ∨ d = 1 ∨ d = 2 ∨ d = 3 ∨ d = 4 ∨ d = 5 ∨ d = 6 := by omega
      rcases z with rfl | rfl | rfl | rfl | rfl | rfl | rfl <;> exact ⟨_, rfl, by decide, by decide⟩
    obtain ⟨cc, ec, c0, c1⟩ := ev
    walk_at "go"
    refine g_ixL y1 ec ?_
    exact k _ _ (((Ex.new hl).but p).trans b10) hb10 ⟨cc, rfl, c0, c1⟩
  intro H1 acc b1 hb1 hacc hla hr2
  obtain ⟨cs, rfl, lcs⟩ := map_of (f := V.int) (ys := acc) fun y hy => by
    obtain ⟨j, hj⟩ := List.mem_iff_getElem?.1 hy
    obtain ⟨c, e, _⟩ := hr2 j y hj
    exact ⟨c, e⟩
  have hcs : ∀ c ∈ cs, 0 ≤ c ∧ c ≤ 4 := fun c hc => by
    obtain ⟨j, hj⟩ := List.mem_iff_getElem?.1 hc
    obtain ⟨c', e, h⟩ := hr2 j (.int c) (by rw [List.getElem?_map, hj]; rfl)
    cases e
    exact h
  clear hr2
  have k1 := k0.but b1 hb1
  walk_at "go"
  refine g_tupOf hacc fun cl hcl => ?_
  have k2 := k1.new (o := .tup (cs.map V.int)) hcl
  have hcl2 := @upd_same H1 cl (.tup (cs.map V.int))
  revert k2 hcl2
  generalize upd H1 cl (.tup (cs.map V.int)) = H2
  intro k2 hcl2
  walk_at "go"
  refine g_new fun RL hRL => ?_
  have hR0 := k2.free hRL
  have nR := k2.ne hRL
  have k3 := k2.new (o := .lst []) hRL
  have hcl3 := Ex.new (o := .lst []) hRL _ _ hcl2
  have hRL3 := @upd_same H2 RL (.lst [])
  revert k3 hcl3 hRL3
  generalize upd H2 RL (.lst []) = H3
  intro k3 hcl3 hRL3
  walk_at "go"
  refine g_seqLs ?_
  walk_at "go"
  refine ⟨wd, _, rfl, rv.tk k3.2.2 (wood_hard wd), ok, fun ml H4 us e4 hml hDu => ?_⟩
  have lus := hDu.1
  have k4 := k3.ex e4
  have hcl4 := e4 _ _ hcl3
  have hRL4 := e4 _ _ hRL3
  have nml : ml ≠ p := fun z => by
    obtain ⟨x, y, u, hp⟩ := k4.2.1
    rw [z, hp] at hml
    cases hml
    obtain ⟨_, _, _, _, h, _⟩ := hDu.2 0 (.int x) rfl
    cases h
  have ccnt : ∀ e : Nat × Mk, e.1 < wd.length → 0 ≤ cntAt cs e.1 ∧ cntAt cs e.1 ≤ 4 := fun e he => by
    unfold cntAt
    rw [List.getD_eq_getElem?_getD]
    have hl2 : ((e.1 : Nat) : Int).toNat < cs.length := by omega
    rw [List.getElem?_eq_getElem hl2]
    exact hcs _ (List.getElem_mem hl2)
  walk_at "go"
  refine ⟨_, rfl, ⟨_, sqL hml⟩, ?_⟩
  refine for_it walk_list (fun i σ Hc => (∃ o4 o5 o6 o7 o8 o9 o10 o11 o12, σ = [some (.ref p), some (.ref wa), some (.ref cl), some (.ref RL), o4, o5, o6, o7, o8, o9, o10, o11, o12, none, none]) ∧ Kp p H Hc ∧ Tk H4 Hc ∧ Hc ml = some (.lst us) ∧ ∃ (rs : List V) (rls : List Bk.Rl), Hc RL = some (.lst rs) ∧ Reps Hc (rls.map rlD) rs ∧ rls.length = i ∧ ∀ (j : Nat) (e : Nat × Mk) (x : Bk.Rl), (tabFrom 0 wd)[j]? = some e → rls[j]? = some x → (x.length : Int) = cntAt cs e.1 ∧ ∀ s ∈ x, s.length ≤ 6 ∧ ∀ t ∈ s, TmOk cs (dueOf wd e) t) ⟨⟨_, _, _, _, _, _, _, _, _, rfl⟩, k4, Tk.refl _, hml, [], [], hRL4, by simp only [List.map, Reps], rfl, fun j e x _ z => by simp at z⟩ (fun i σ Hc _ h => sqL h.2.2.2.1) ?_ ?_
  · rintro i x σ Hc Hc' hi ⟨⟨o4, o5, o6, o7, o8, o9, o10, o11, o12, rfl⟩, kc, tc, hmlc, rs, rls, hRc, rrs, lrl, hrls⟩ ⟨rfl, hx⟩
    obtain ⟨e, et, p1, t1, rfl, hp1, ht1⟩ := hDu.2 i x hx
    rw [dueOf_vals] at ht1
    have hem := List.mem_of_getElem? et
    obtain ⟨ek, dl, d2, din⟩ := dueOf_in ok hem
    obtain ⟨q0, q4⟩ := ccnt e ek
    have nmR : ml ≠ RL := fun z => by
      rw [z, hRL4] at hml
      cases hml
      simp at hx
    have hcls := tc _ _ hcl4
    have ht1c := tc _ _ ht1
    refine g_tup3 (tc _ _ hp1) ?_
    walk_at "go"
    refine g_new fun SL hSL => ?_
    have hSL0 := hSL
    have nS := kc.ne hSL
    have kd0 := (Kp.refl kc.2.1).new (o := .lst []) hSL
    have hS1 := @upd_same Hc' SL (.lst [])
    revert kd0 hS1
    generalize upd Hc' SL (.lst []) = Hd0
    intro kd0 hS1
    walk_at "go"
    refine g_ixT (kd0.2.2 _ _ hcls) (cnt_at (by omega) (by omega)) ?_
    walk_at "go"
    refine ⟨_, rfl, by omega, by omega, ?_⟩
    refine for_it walk_range (fun k σ Hd => (∃ o8 o9 o10 o11 o12, σ = [some (.ref p), some (.ref wa), some (.ref cl), some (.ref RL), some (.str e.2.1), some (.int (e.1 : Nat)), some (.ref t1), some (.ref SL), o8, o9, o10, o11, o12, none, none]) ∧ Kp p Hc' Hd ∧ ∃ (ss : List V) (sms : List Bk.Sm), Hd SL = some (.lst ss) ∧ Reps Hd (sms.map smD) ss ∧ sms.length = k ∧ ∀ s ∈ sms, s.length ≤ 6 ∧ ∀ t ∈ s, TmOk cs (dueOf wd e) t) ⟨⟨_, _, _, _, _, rfl⟩, kd0, [], [], hS1, by simp only [List.map, Reps], rfl, fun s z => (nomatch z)⟩ (fun _ _ _ _ _ => trivial) ?_ ?_
    · rintro k x σ Hd Hd' hk ⟨⟨o8, o9, o10, o11, o12, rfl⟩, kd, ss, sms, hSd, rss, lsm, hsms⟩ ⟨rfl, rfl⟩
      walk_at "go"
      refine g_new fun TL hTL => ?_
      have hTL0 := hTL
      have nT := kd.ne hTL
      have ke0 := (Kp.refl kd.2.1).new (o := .lst []) hTL
      have hT1 := @upd_same Hd' TL (.lst [])
      revert ke0 hT1
      generalize upd Hd' TL (.lst []) = He0
      intro ke0 hT1
      walk_at "go"
      refine g_new fun l4 hl4 => ?_
      have ke1 := ke0.new (o := .lst [.int 4, .int 7]) hl4
      have n4 := ke0.ne hl4
      have hT2 := Ex.new (o := .lst [.int 4, .int 7]) hl4 _ _ hT1
      have h41 := @upd_same He0 l4 (.lst [.int 4, .int 7])
      revert ke1 hT2 h41
      generalize upd He0 l4 (.lst [.int 4, .int 7]) = He1
      intro ke1 hT2 h41
      walk_at "go"
      refine ⟨p, 4, rfl, ke1.2.1, by decide, by decide, fun fo He2 fo0 fo1 b2 hb2 => ?_⟩
      have ke2 := ke1.but b2 hb2
      walk_at "go"
      have em : ∃ m : Int, atI [V.int 4, .int 7] (b2z (decide (V.int fo = V.int 0))) = some (.int m) ∧ 1 ≤ m ∧ m ≤ 7 := by
        by_cases c : V.int fo = V.int 0
        · rw [decide_eq_true c]
          exact ⟨_, rfl, by decide, by decide⟩
        · rw [decide_eq_false c]
          exact ⟨_, rfl, by decide, by decide⟩
      obtain ⟨m, em, m0, m1⟩ := em
      refine g_ixL (b2 _ _ n4 h41) em ?_
      walk_at "go"
      refine ⟨p, m, rfl, hb2, by omega, Nat.lt_of_lt_of_le (Bits.log (n := 10) (show m.natAbs < 2 ^ 10 by omega)) (by decide), fun d He3 d0 d1 b3 hb3 => ?_⟩
      have ke3 := ke2.but b3 hb3
      have hT3 := b3 _ _ nT (b2 _ _ nT hT2)
      walk_at "go"
      refine ⟨_, rfl, by omega, by omega, ?_⟩
      refine for_it walk_range (fun j σ Hf => (∃ o10 o11 o12, σ = [some (.ref p), some (.ref wa), some (.ref cl), some (.ref RL), some (.str e.2.1), some (.int (e.1 : Nat)), some (.ref t1), some (.ref SL), some (.int (0 + (k : Nat))), some (.ref TL), o10, o11, o12, none, none]) ∧ Kp p Hd' Hf ∧ ∃ (ts : List V) (tms : List Bk.Tm), Hf TL = some (.lst ts) ∧ Reps Hf (tms.map tmD) ts ∧ tms.length = j ∧ ∀ t ∈ tms, TmOk cs (dueOf wd e) t) ⟨⟨_, _, _, rfl⟩, ke3, [], [], hT3, by simp only [List.map, Reps], rfl, fun s z => (nomatch z)⟩ (fun _ _ _ _ _ => trivial) ?_ ?_
      · rintro j x σ Hf Hf' hj ⟨⟨o10, o11, o12, rfl⟩, kf, ts, tms, hTf, rts, ltm, htms⟩ ⟨rfl, rfl⟩
        have tf := (kd.2.2.trans kf.2.2)
        have hclf := tf _ _ hcls
        have ht1f := tf _ _ ht1c
        have lts : ts.length = tms.length := by rw [rts.len, List.length_map]
        have ldo : ((dueOf wd e).map V.int).length = (dueOf wd e).length := List.length_map _
        have ncl : cl ≠ p := kf.2.1.tkne (Ex.refl _) hclf
        have nt1 : t1 ≠ p := kf.2.1.tkne (Ex.refl _) ht1f
        walk_at "go"
        refine g_seqTs ?_
        walk_at "go"
        refine ⟨_, rfl, ⟨_, sqT ht1f⟩, fun PL hPL => ?_⟩
        refine lc_mapB walk_tup p (fun u _ v => ∃ pn, (dueOf wd e)[u]? = some pn ∧ ∃ d : Int, v = V.int d ∧ 0 ≤ d ∧ d ≤ cntAt cs pn) (by omega) hPL kf.2.1 (fun _ _ _ _ _ r => r) (fun H8 b => sqT (b _ _ nt1 ht1f)) ?_ ?_
        · rintro u y H8 H9 P N hu b8 hb8 ⟨rfl, hy⟩ kk
          rw [List.getElem?_map] at hy
          cases en : (dueOf wd e)[u]? with
          | none => rw [en] at hy; cases hy
          | some pn =>
          rw [en] at hy
          cases hy
          have pin := din pn (List.mem_of_getElem? en)
          have hcn : 0 ≤ cntAt cs pn ∧ cntAt cs pn ≤ 4 := by
            have := ccnt (pn.toNat, e.2) (by show pn.toNat < wd.length; omega)
            rw [show ((pn.toNat : Nat) : Int) = pn by omega] at this
            exact this
          walk_at "go"
          refine ⟨rfl, ?_⟩
          walk_at "go"
          refine g_ixT (b8 _ _ ncl hclf) (cnt_at pin.1 (by omega)) ?_
          walk_at "go"
          refine ⟨p, _, rfl, hb8, by omega, Nat.lt_of_lt_of_le (Bits.log (n := 10) (show (cntAt cs pn + 1).natAbs < 2 ^ 10 by omega)) (by decide), fun dd H10 d0 d1 b10 hb10 => ?_⟩
          exact kk _ _ b10 hb10 ⟨pn, en, dd, rfl, d0, by omega⟩
        intro Hg pks bg hbg hpks hlp hrp
        obtain ⟨ps, rfl, lps⟩ := map_of (f := V.int) (ys := pks) fun y hy => by
          obtain ⟨j, hj⟩ := List.mem_iff_getElem?.1 hy
          obtain ⟨_, _, dd, e, _⟩ := hrp j y hj
          exact ⟨dd, e⟩
        have kg := (Kp.refl kf.2.1).but bg hbg
        have nPL := kf.ne hPL
        walk_at "go"
        refine ⟨p, rfl, hbg, fun fq ff Hh hfq fok bh hbh => ?_⟩
        have kh := kg.but bh hbh
        have hps := bh _ _ nPL hpks
        have lpm : (ps.map V.int).length = ps.length := List.length_map _
        walk_at "go"
        refine g_seqLs ?_
        walk_at "go"
        refine ⟨_, rfl, ⟨_, sqL hps⟩, fun QL hQL => ?_⟩
        refine lc_mapE walk_list (fun u _ v => ∃ d, ps[u]? = some d ∧ v = bxV (if d = 0 then none else some (d - 1))) (by omega) hQL (fun _ _ _ _ _ r => r) (fun H8 e => sqL (e _ _ hps)) ?_ ?_
        · rintro u y H8 H9 P N hu e8 ⟨rfl, hy⟩ kk
          rw [List.getElem?_map] at hy
          cases en : ps[u]? with
          | none => rw [en] at hy; cases hy
          | some dd =>
          rw [en] at hy
          cases hy
          have ev : atI [V.int (dd - 1), V.non] (b2z (decide (V.int dd = V.int 0))) = some (bxV (if dd = 0 then none else some (dd - 1))) := by
            by_cases c : dd = 0
            · subst c
              rfl
            · rw [decide_eq_false fun z => c (V.int.inj z), if_neg c]
              rfl
          walk_at "go"
          refine ⟨rfl, ?_⟩
          walk_at "go"
          refine g_new fun l hl => ?_
          walk_at "go"
          refine g_ixL upd_same ev ?_
          exact kk _ _ (Ex.new hl) ⟨dd, en, rfl⟩
        intro Hi acc2 ei hacc2 hla2 hr3
        obtain ⟨bs, rfl, lbs⟩ := map_of (f := bxV) (ys := acc2) fun y hy => by
          obtain ⟨j, hj⟩ := List.mem_iff_getElem?.1 hy
          obtain ⟨_, _, e⟩ := hr3 j y hj
          exact ⟨_, e⟩
        have tmok : TmOk cs (dueOf wd e) (ff, bs) := ⟨fok, by show bs.length = _; omega, List.all_eq_true.2 fun z hz => by
          obtain ⟨j, hj⟩ := List.mem_iff_getElem?.1 hz
          obtain ⟨pn, bo⟩ := z
          obtain ⟨ha1, hb1⟩ := List.getElem?_zip_eq_some.1 hj
          obtain ⟨dd, hd, e1⟩ := hr3 j (bxV bo) (by rw [List.getElem?_map, hb1]; rfl)
          obtain ⟨pn', hpn, dd', e2, d0, d1⟩ := hrp j (.int dd) (by rw [List.getElem?_map, hd]; rfl)
          cases e2
          rw [ha1] at hpn
          cases hpn
          have e3 := bxV_inj e1
          have d1' : dd ≤ cntAt cs pn := d1
          subst e3
          unfold boxOk
          by_cases c : dd = 0
          · simp only [if_pos c]
          · simp only [if_neg c]
            exact decide_eq_true ⟨show 0 ≤ dd - 1 by omega, show dd - 1 < cntAt cs pn by omega⟩⟩
        clear hr3 hrp
        walk_at "go"
        refine g_tupOf hacc2 fun bq hbq => ?_
        have ki := kh.ex ei
        have ki2 := ki.new (o := .tup (bs.map bxV)) hbq
        have hbq2 := @upd_same Hi bq (.tup (bs.map bxV))
        have hfq2 := Ex.new (o := .tup (bs.map bxV)) hbq _ _ (ei _ _ hfq)
        revert ki2 hbq2 hfq2
        generalize upd Hi bq (.tup (bs.map bxV)) = Hj
        intro ki2 hbq2 hfq2
        walk_at "go"
        refine g_new fun tq htq => ?_
        have kj := ki2.new (o := .tup [.ref fq, .ref bq]) htq
        have rt : Rep (upd Hj tq (.tup [.ref fq, .ref bq])) (tmD (ff, bs)) (.ref tq) := Rep.tm upd_same (Ex.new htq _ _ hfq2) (Ex.new htq _ _ hbq2)
        revert kj rt
        generalize upd Hj tq (.tup [.ref fq, .ref bq]) = Hk
        intro kj rt
        have hTk := kj.1 _ _ nT hTf
        walk_at "go"
        refine ⟨fun σ' H' => ∃ (tv : V) (tm : Bk.Tm), σ' = [some (.ref p), some (.ref wa), some (.ref cl), some (.ref RL), some (.str e.2.1), some (.int (e.1 : Nat)), some (.ref t1), some (.ref SL), some (.int (0 + (k : Nat))), some (.ref TL), some (.int (0 + (j : Nat))), some (.ref PL), some tv, none, none] ∧ Rep H' (tmD tm) tv ∧ TmOk cs (dueOf wd e) tm ∧ Kp p Hf' H', ?_, ?_⟩
        · walk_at "go"
          refine g_new fun z1 hz1 => ?_
          have kl := kj.new (o := .lst []) hz1
          have rtl := rt.ex (Ex.new (o := .lst []) hz1)
          have hTl := Ex.new (o := .lst []) hz1 _ _ hTk
          refine g_neNil hTl upd_same (dp_reps (fun x v h => tm_dp h) (rts.tkm kl.2.2 tm_hard)) ?_
          revert kl rtl hTl
          generalize upd Hk z1 (.lst []) = Hl
          intro kl rtl hTl
          walk_at "go"
          refine i_nb (fun c1 => ?_) fun c1 => ?_
          · walk_at "go"
            refine ⟨p, 8, rfl, kl.2.1, by decide, by decide, fun u Hm u0 u1 bm hbm => ?_⟩
            have km := kl.but bm hbm
            have rtm := rtl.tk (kl.2.1.tk bm) (tm_hard _)
            have hTm := bm _ _ nT hTl
            walk_at "go"
            refine i_eqI (fun c2 => ?_) fun c2 => ?_
            · walk_at "go"
              have tpos : 0 < ts.length := by
                cases ts with
                | nil => cases c1
                | cons x xs => exact Nat.succ_pos _
              refine ⟨p, _, rfl, km.2.1, by omega, Nat.lt_of_lt_of_le (Bits.log (n := 30) (show ((ts.length : Nat) : Int).natAbs < 2 ^ 30 by omega)) (by decide), fun y Hn y0 y1 bn hbn => ?_⟩
              have kn := km.but bn hbn
              obtain ⟨x3, ex3, hx3⟩ := atI_ex (l := ts) y0 (by omega)
              obtain ⟨d3, hd3, rd3⟩ := (rts.tkm kn.2.2 tm_hard).get hx3
              rw [List.getElem?_map] at hd3
              cases er3 : tms[y.toNat]? with
              | none => rw [er3] at hd3; cases hd3
              | some t0 =>
              rw [er3] at hd3
              cases hd3
              walk_at "go"
              refine g_ixL (bn _ _ nT hTm) ex3 ?_
              walk_at "go"
              exact ⟨x3, t0, rfl, rd3, htms t0 (List.mem_of_getElem? er3), kn⟩
            · walk_at "go"
              exact ⟨_, _, rfl, rtm, tmok, km⟩
          · walk_at "go"
            exact ⟨_, _, rfl, rtl, tmok, kl⟩
        rintro σ' HM ⟨tv, tm, rfl, rtv, tmk, kM⟩
        have hTM := kM.1 _ _ nT hTf
        walk_at "go"
        refine g_app hTM (Nat.lt_of_le_of_lt (by omega : ts.length ≤ 1000) (by decide)) ?_
        have tu := tk_put (ys := ts ++ [tv]) hTM
        walk_at "go"
        exact ⟨⟨_, _, _, rfl⟩, (kf.trans kM).put hTL0 nT hTM, _, tms ++ [tm], upd_same, reps_snoc (rts.tkm (kM.2.2.trans tu) tm_hard) (rtv.tk tu (tm_hard _)), by rw [List.length_append, ltm]; rfl, fun t ht => by
          rcases List.mem_append.1 ht with ht | ht
          · exact htms t ht
          · rw [List.mem_singleton.1 ht]
            exact tmk⟩
      · rintro σ Hf ⟨⟨o10, o11, o12, rfl⟩, kf, ts, tms, hTf, rts, ltm, htms⟩
        have hSf := kf.1 _ _ nS hSd
        have lss : ss.length = sms.length := by rw [rss.len, List.length_map]
        walk_at "go"
        refine g_tupOf hTf fun sq hsq => ?_
        have kg := kf.new (o := .tup ts) hsq
        have hSg := Ex.new (o := .tup ts) hsq _ _ hSf
        have hsg := @upd_same Hf sq (.tup ts)
        have rtg := rts.ex (Ex.new (o := .tup ts) hsq)
        revert kg hSg hsg rtg
        generalize upd Hf sq (.tup ts) = Hg
        intro kg hSg hsg rtg
        walk_at "go"
        refine g_app hSg (Nat.lt_of_le_of_lt (by omega : ss.length ≤ 1000) (by decide)) ?_
        have tu := tk_put (ys := ss ++ [.ref sq]) hSg
        walk_at "go"
        exact ⟨⟨_, _, _, _, _, rfl⟩, (kd.trans kg).put hSL0 nS hSg, _, sms ++ [tms], upd_same, reps_snoc (rss.tkm (kg.2.2.trans tu) sm_hard) (Rep.tupO (tu _ _ hsg) (rtg.tkm tu tm_hard)), by rw [List.length_append, lsm]; rfl, fun s hs => by
          rcases List.mem_append.1 hs with hs | hs
          · exact hsms s hs
          · rw [List.mem_singleton.1 hs]
            exact ⟨by omega, htms⟩⟩
    · rintro σ Hd ⟨⟨o8, o9, o10, o11, o12, rfl⟩, kd, ss, sms, hSd, rss, lsm, hsms⟩
      have hRd := kd.1 _ _ nR hRc
      have hmld := kd.1 _ _ nml hmlc
      have lrs : rs.length = rls.length := by rw [rrs.len, List.length_map]
      have tabl := ok.many
      walk_at "go"
      refine g_tupOf hSd fun rq hrq => ?_
      have kg := kd.new (o := .tup ss) hrq
      have hRg := Ex.new (o := .tup ss) hrq _ _ hRd
      have hmlg := Ex.new (o := .tup ss) hrq _ _ hmld
      have hrg := @upd_same Hd rq (.tup ss)
      have rsg := rss.ex (Ex.new (o := .tup ss) hrq)
      revert kg hRg hrg rsg hmlg
      generalize upd Hd rq (.tup ss) = Hg
      intro kg hRg hmlg hrg rsg
      walk_at "go"
      refine g_app hRg (Nat.lt_of_le_of_lt (by omega : rs.length ≤ 1000) (by decide)) ?_
      have tu := tk_put (ys := rs ++ [.ref rq]) hRg
      walk_at "go"
      refine ⟨⟨_, _, _, _, _, _, _, _, _, rfl⟩, (kc.trans kg).put hR0 nR hRg, tc.trans (kg.2.2.trans tu), by rw [upd_ne nmR]; exact hmlg, _, rls ++ [sms], upd_same, reps_snoc (rrs.tkm (kg.2.2.trans tu) rl_hard) (Rep.tupO (tu _ _ hrg) (rsg.tkm tu sm_hard)), by rw [List.length_append, lrl]; rfl, fun j e' x hj hx => ?_⟩
      rcases Nat.lt_or_ge j rls.length with h | h
      · rw [List.getElem?_append_left h] at hx
        exact hrls j e' x hj hx
      · rw [List.getElem?_append_right h] at hx
        have ej : j = rls.length := by
          have := (List.getElem?_eq_some_iff.1 hx).1
          rw [List.length_singleton] at this
          omega
        subst ej
        rw [Nat.sub_self] at hx
        cases hx
        rw [lrl, et] at hj
        cases hj
        exact ⟨by omega, hsms⟩
  · rintro σ Hc ⟨⟨o4, o5, o6, o7, o8, o9, o10, o11, o12, rfl⟩, kc, tc, hmlc, rs, rls, hRc, rrs, lrl, hrls⟩
    walk_at "go"
    refine g_tupOf hRc fun rq hrq => ?_
    have kg := kc.new (o := .tup rs) hrq
    have hcg := Ex.new (o := .tup rs) hrq _ _ (tc _ _ hcl4)
    have hrg := @upd_same Hc rq (.tup rs)
    have rrg := rrs.ex (Ex.new (o := .tup rs) hrq)
    revert kg hcg hrg rrg
    generalize upd Hc rq (.tup rs) = Hg
    intro kg hcg hrg rrg
    walk_at "go"
    refine g_new fun fin hfin => ?_
    have kF := kg.new (o := .tup [.ref cl, .ref rq]) hfin
    exact q (cs, rls) _ _ ⟨by show cs.length = _; omega, hcs, by show rls.length = _; omega, hrls⟩ (Rep.rd upd_same (Ex.new hfin _ _ hcg) (Ex.new hfin _ _ hrg) (rrg.ex (Ex.new hfin))) kF.1 kF.2.1
theorem vi_read_fraction_0 : Vis (defScope s_read_fraction) "text" := by first | exact Or.inl (by decide +kernel) | exact Or.inr (Or.inl (by decide +kernel)) | exact Or.inr (Or.inr (by decide +kernel))
theorem vi_read_fraction_1 : Vis (defScope s_read_fraction) "upper" := by first | exact Or.inl (by decide +kernel) | exact Or.inr (Or.inl (by decide +kernel)) | exact Or.inr (Or.inr (by decide +kernel))
theorem vi_read_fraction_2 : Vis (defScope s_read_fraction) "stroke" := by first | exact Or.inl (by decide +kernel) | exact Or.inr (Or.inl (by decide +kernel)) | exact Or.inr (Or.inr (by decide +kernel))
theorem vi_read_fraction_3 : Vis (defScope s_read_fraction) "lower" := by first | exact Or.inl (by decide +kernel) | exact Or.inr (Or.inl (by decide +kernel)) | exact Or.inr (Or.inr (by decide +kernel))
theorem vi_read_fraction_4 : Vis (defScope s_read_fraction) "figures" := by first | exact Or.inl (by decide +kernel) | exact Or.inr (Or.inl (by decide +kernel)) | exact Or.inr (Or.inr (by decide +kernel))
theorem vi_read_fraction_5 : Vis (defScope s_read_fraction) "found" := by first | exact Or.inl (by decide +kernel) | exact Or.inr (Or.inl (by decide +kernel)) | exact Or.inr (Or.inr (by decide +kernel))
theorem lo_read_fraction_1 : Loc (defScope s_read_fraction) "upper" := by first | exact Or.inl (by decide +kernel) | exact Or.inr (by decide +kernel)
theorem lo_read_fraction_2 : Loc (defScope s_read_fraction) "stroke" := by first | exact Or.inl (by decide +kernel) | exact Or.inr (by decide +kernel)
theorem lo_read_fraction_3 : Loc (defScope s_read_fraction) "lower" := by first | exact Or.inl (by decide +kernel) | exact Or.inr (by decide +kernel)
theorem lo_read_fraction_4 : Loc (defScope s_read_fraction) "figures" := by first | exact Or.inl (by decide +kernel) | exact Or.inr (by decide +kernel)
theorem lo_read_fraction_5 : Loc (defScope s_read_fraction) "found" := by first | exact Or.inl (by decide +kernel) | exact Or.inr (by decide +kernel)
theorem ok_read_fraction (T : Txt K mg) : FnOk P w K mg base (L2.CX P w) 4 T.a_read_fraction T.d_read_fraction ["text"] (spReadFx T.a_NoText) := by
  refine T.F_read_fraction.okX sc_read_fraction (fun vs H Q E h => ?_) (fun cdv A outer s H vs Q E hr h => ?_)
  · obtain ⟨_, rfl, _⟩ := h
    rfl
  obtain ⟨z, rfl, hz, q0, q1⟩ := h
  refine ⟨_, (pss_cons (ps_asg (pe_partition (uv 0 (hv := vi_read_fraction_0)) pe_str) (pg_tup rfl (pgs_cons (pg_name (i := 1) sc_read_fraction.nd rfl lo_read_fraction_1) (pgs_cons (pg_name (i := 2) sc_read_fraction.nd rfl lo_read_fraction_2) (pgs_cons (pg_name (i := 3) sc_read_fraction.nd rfl lo_read_fraction_3) pgs_nil)))))
      (pss_cons (ps_set (i := 4) sc_read_fraction.nd rfl lo_read_fraction_4 (pe_slice us_sl (uv 1 (hv := vi_read_fraction_1)) (po_some (pe_callTy uk_int rfl T.z_int boot_int (pa_cons (pe_m1 PySem.F.slot_str_startswith PySem.F.type_str_startswith mt_startswith (uv 1 (hv := vi_read_fraction_1)) pe_str) pa_nil))) po_none))
      (C8.pss_cut (ps_if (pt_cmpR op_eq (uv 2 (hv := vi_read_fraction_2)) pe_str (nomark _)) (pss_one (ps_set (i := 3) sc_read_fraction.nd rfl lo_read_fraction_3 pe_str)) pss_nil)
      (pss_cons (ps_if (PW.pt (pw_or (pt_not (ut (pe_callD (ok_is_figures T) (hr.mono (by decide)) rfl T.m_is_figures T.F_is_figures.kp T.b_is_figures .nil (fun σ => passAt (takes_of rfl rfl rfl rfl) σ) (pa_cons (uv 4 (hv := vi_read_fraction_4)) pa_nil)))) (pw_or (pt_not (ut (pe_callD (ok_is_figures T) (hr.mono (by decide)) rfl T.m_is_figures T.F_is_figures.kp T.b_is_figures .nil (fun σ => passAt (takes_of rfl rfl rfl rfl) σ) (pa_cons (uv 3 (hv := vi_read_fraction_3)) pa_nil)))) (pw_or1 (pt_cmpR op_eq (uv 3 (hv := vi_read_fraction_3)) pe_str (nomark _)))))) (pss_one (ps_raise rfl (takes_of rfl rfl rfl rfl) (pmk_oex T.o_NoText T.i_NoText T.t_NoText (ok_init_NoText T) (hr.mono (by decide)) T.bI_NoText .nil passL rfl T.m_NoText (pa_cons pe_int pa_nil)))) pss_nil)
      (pss_cons (ps_set (i := 5) sc_read_fraction.nd rfl lo_read_fraction_5 (pe_callD (ok_fraction_of T) (hr.mono (by decide)) rfl T.m_fraction_of T.F_fraction_of.kp T.b_fraction_of .nil (fun σ => passAt (takes_of rfl rfl rfl rfl) σ) (pa_cons (pe_callTy uk_intS rfl T.z_int boot_int (pa_cons (uv 1 (hv := vi_read_fraction_1)) pa_nil)) (pa_cons (pe_callTy uk_intS rfl T.z_int boot_int (pa_cons (uv 3 (hv := vi_read_fraction_3)) pa_nil)) pa_nil))))
      (pss_cons (ps_if (pt_cmpR op_ne (pe_callD (ok_show_fraction T) (hr.mono (by decide)) rfl T.m_show_fraction T.F_show_fraction.kp T.b_show_fraction .nil (fun σ => passAt (takes_of rfl rfl rfl rfl) σ) (pa_cons (uv 5 (hv := vi_read_fraction_5)) pa_nil)) (uv 0 (hv := vi_read_fraction_0)) (nomark _)) (pss_one (ps_raise rfl (takes_of rfl rfl rfl rfl) (pmk_oex T.o_NoText T.i_NoText T.t_NoText (ok_init_NoText T) (hr.mono (by decide)) T.bI_NoText .nil passL rfl T.m_NoText (pa_cons pe_int pa_nil)))) pss_nil)
      (pss_one (ps_ret (uv 5 (hv := vi_read_fraction_5)))))))))), ?_⟩
  walk_at "go"
  have pl := part_ok (z := z) (y := "/") slash_list
  have ER : readFx z = if isFigs (bareS (Txt.partition z "/").1) = true ∧ isFigs (lowS (Txt.partition z "/")) = true ∧ lowS (Txt.partition z "/") ≠ "0" then
    (if showFx (lowF (intT (Txt.partition z "/").1) (intT (lowS (Txt.partition z "/")))) = z then some (lowF (intT (Txt.partition z "/").1) (intT (lowS (Txt.partition z "/")))) else none)
  else none := rfl
  refine ⟨z, "/", rfl, rfl, by decide, Nat.le_trans (by omega : z.length ≤ 1000000) (by decide), fun p hp => ?_⟩
  revert pl ER
  generalize Txt.partition z "/" = pt
  obtain ⟨up, st, lw⟩ := pt
  intro pl ER
  obtain ⟨pl1, pl2, _, _⟩ := pl
  replace pl1 : up.length ≤ z.length := pl1
  replace pl2 : lw.length ≤ z.length := pl2
  have e1 := Ex.new (o := .tup [V.str up, V.str st, V.str lw]) hp
  have a1 := @upd_same H p (.tup [V.str up, V.str st, V.str lw])
  show gTup _ _ _ _ _ (upd H p (.tup [V.str up, V.str st, V.str lw])) _
  revert e1 a1
  generalize upd H p (.tup [V.str up, V.str st, V.str lw]) = H1
  intro e1 a1
  refine g_tup3 a1 ?_
  walk_at "go"
  refine ⟨_, _, rfl, rfl, ?_⟩
  walk_at "go"
  refine g_slS (by omega) ?_
  walk_at "go"
  refine ⟨fun σ H2 => σ = [some (.str z), some (.str up), some (.str st), some (.str (lowS (up, st, lw))), some (.str (bareS up)), none] ∧ Ex H H2, ?_, ?_⟩
  · walk_at "go"
    refine i_eqS (fun c => ?_) fun c => ?_
    · walk_at "go"
      have e : lowS (up, st, lw) = "1" := if_pos c
      rw [e]
      exact ⟨rfl, e1⟩
    · have e : lowS (up, st, lw) = lw := if_neg c
      rw [e]
      exact ⟨rfl, e1⟩
  rintro σ H2 ⟨rfl, e2⟩
  have ll : (lowS (up, st, lw)).length ≤ 500000 := by
    unfold lowS
    split
    · decide
    · show lw.length ≤ _
      omega
  have lb := cutS_len up (some (b2z (hasSign up))) none
  replace lb : (bareS up).length ≤ up.length := lb
  generalize lowS (up, st, lw) = lo at ll ER
  replace ER : readFx z = if isFigs (bareS up) = true ∧ isFigs lo = true ∧ lo ≠ "0" then (if showFx (lowF (intT up) (intT lo)) = z then some (lowF (intT up) (intT lo)) else none) else none := ER
  walk_at "go"
  refine ⟨bareS up, rfl, by omega, fun H3 e3 => ?_⟩
  have e23 := e2.trans e3
  have bad : ∀ H', Ex H H' → ¬ (isFigs (bareS up) = true ∧ isFigs lo = true ∧ lo ≠ "0") → ∀ d H9, Ex H' H9 → H9 d = some (.xd [("row", .int 0)]) → E (.ref T.a_NoText) (some d) H9 := fun H' x c d H9 y hd => q0 (by rw [ER, if_neg c]) d H9 (x.trans y) hd
  walk_at "go"
  cases c1 : isFigs (bareS up) with
  | false =>
    walk_at "go"
    exact end_exc1 T.x_NoText T.o_NoText T.n_NoText_row fun d H' e h => bad _ e23 (by rw [c1]; exact fun z => (nomatch z.1)) d H' e h
  | true =>
  walk_at "go"
  refine ⟨lo, rfl, ll, fun H4 e4 => ?_⟩
  have e24 := e23.trans e4
  walk_at "go"
  cases c2 : isFigs lo with
  | false =>
    walk_at "go"
    exact end_exc1 T.x_NoText T.o_NoText T.n_NoText_row fun d H' e h => bad _ e24 (by rw [c2]; exact fun z => (nomatch z.2.1)) d H' e h
  | true =>
  walk_at "go"
  refine i_eqS (fun c3 => ?_) fun c3 => ?_
  · walk_at "go"
    exact end_exc1 T.x_NoText T.o_NoText T.n_NoText_row fun d H' e h => bad _ e24 (fun z => z.2.2 c3) d H' e h
  rw [if_pos ⟨c1, c2, c3⟩] at ER
  obtain ⟨i1, i2, i3⟩ := figs_int c1
  obtain ⟨j1, j2, j3, j4⟩ := figs_low c2 c3
  walk_at "go"
  refine g_intS i1 (by omega) ?_
  walk_at "go"
  refine g_intS j1 (by omega) ?_
  walk_at "go"
  have b1 : Bits 100 (intT up) := Nat.lt_trans i2 ten30
  have b2 : Bits 100 (intT lo) := Nat.lt_trans j3 ten30
  have nz : intT lo ≠ 0 := by omega
  refine ⟨_, _, rfl, b1.le (by decide), b2.le (by decide), fun z => absurd z nz, fun _ q hq => ?_⟩
  have e5 := e24.trans (Ex.new (o := .tup [.int (fru (intT up) (intT lo)), .int (frl (intT up) (intT lo))]) hq)
  have a5 := @upd_same H4 q (.tup [.int (fru (intT up) (intT lo)), .int (frl (intT up) (intT lo))])
  revert e5 a5
  generalize upd H4 q (.tup [.int (fru (intT up) (intT lo)), .int (frl (intT up) (intT lo))]) = H5
  intro e5 a5
  walk_at "go"
  refine ⟨q, lowF (intT up) (intT lo), rfl, a5, (fru_bits nz b1).le (by decide), (frl_bits nz b2).le (by decide), ?_⟩
  walk_at "go"
  refine i_neS (fun c4 => ?_) fun c4 => ?_
  · walk_at "go"
    exact end_exc1 T.x_NoText T.o_NoText T.n_NoText_row fun d H' e h => q0 (by rw [ER, if_neg c4]) d H' (e5.trans e) h
  · walk_at "go"
    exact q1 _ (by rw [ER, if_pos c4]) q _ e5 a5
theorem vi_is_fraction_0 : Vis (defScope s_is_fraction) "number" := by first | exact Or.inl (by decide +kernel) | exact Or.inr (Or.inl (by decide +kernel)) | exact Or.inr (Or.inr (by decide +kernel))
theorem kb_fraction_of (T : Txt K mg) : ∃ its : List Value, KBn K T.d_fraction_of ["upper", "lower"] 1 ["lower"] (fun us ws => us ++ ws) (fun vs zs => vs ++ zs) :=
  FunD.kbindsD (ps := ["upper", "lower"]) T.F_fraction_of 1 ["lower"] (fun us _ ws => us ++ ws) (by simp) (fun r1 _ r2 => r1.append r2) fun _ _ _ _ _ _ _ us its ws h1 h2 h3 => match us, h1, its, h2, ws, h3 with
    | [_], _, [_], _, [_], _ => ⟨_, rfl, rfl⟩
theorem ok_is_fraction (T : Txt K mg) : FnOk P w K mg base (L2.CX P w) 4 T.a_is_fraction T.d_is_fraction ["number"] spIsFx := by
  refine T.F_is_fraction.okX sc_is_fraction (fun vs H Q E h => ?_) (fun cdv A outer s H vs Q E hr h => ?_)
  · obtain ⟨_, _, _, rfl, _⟩ := h
    rfl
  obtain ⟨p, u, l, rfl, hp, bu, bl, q⟩ := h
  refine ⟨_, (pss_one (ps_ret (pe_and (pe_cmpR uo_gt (pe_ix ux_seq (uv 0 (hv := vi_is_fraction_0)) pe_int (fun _ _ => rfl)) pe_int (nomark _)) (pe_one (pe_cmpR (op_eqD hr.units) (pe_callN (n := 1) (E := fun _ _ _ => False) (ok_fraction_of T) (hr.mono (by decide)) rfl T.m_fraction_of T.F_fraction_of.kp (kb_fraction_of T).choose_spec passL (pa_cons (pe_ix ux_seq (uv 0) pe_int (fun _ _ => rfl)) pa_nil) (pk_cons (pe_ix ux_seq (uv 0) pe_int (fun _ _ => rfl)) pk_nil)) (uv 0 (hv := vi_is_fraction_0)) (nomark _)))))), ?_⟩
  walk_at "go"
  refine i_d (fun c0 => ?_) fun c0 => ?_
  rotate_left
  · rw [decide_eq_false (fun z => c0 z.1)] at q
    exact q _ (Ex.refl _)
  walk_at "go"
  (try refine g_callN ?_)
  walk_at "go"
  refine ⟨rfl, rfl, u, l, rfl, bu.le, bl.le, fun z => absurd z (by omega), fun _ p2 hp2 => ?_⟩
  have e1 := Ex.new (o := .tup [.int (fru u l), .int (frl u l)]) hp2
  walk_at "go"
  refine g_eqIs upd_same (e1 _ _ hp) ?_
  rw [show decide (fru u l = u ∧ frl u l = l) = decide (0 < l ∧ Int.gcd u l = 1) from by
    by_cases c : Int.gcd u l = 1
    · rw [decide_eq_true ((gcd_lowest c0).2 c), decide_eq_true ⟨c0, c⟩]
    · rw [decide_eq_false fun z => c ((gcd_lowest c0).1 z), decide_eq_false fun z => c z.2]]
  exact q _ e1
theorem vi_number_in_0 : Vis (defScope s_number_in) "word" := by first | exact Or.inl (by decide +kernel) | exact Or.inr (Or.inl (by decide +kernel)) | exact Or.inr (Or.inr (by decide +kernel))
theorem vi_number_in_1 : Vis (defScope s_number_in) "row" := by first | exact Or.inl (by decide +kernel) | exact Or.inr (Or.inl (by decide +kernel)) | exact Or.inr (Or.inr (by decide +kernel))
theorem ok_number_in (T : Txt K mg) : FnOk P w K mg base (L2.CX P w) 4 T.a_number_in T.d_number_in ["word", "row"] (spNumIn T.a_NoText) := by
  refine T.F_number_in.okX sc_number_in (fun vs H Q E h => ?_) (fun cdv A outer s H vs Q E hr h => ?_)
  · obtain ⟨_, _, rfl, _⟩ := h
    rfl
  obtain ⟨z, xr, rfl, hz, q0, q1⟩ := h
  refine ⟨_, (pss_cons (ps_expr (pe_callD (ok_need_readertexts T) (hr.mono (by decide)) rfl T.m_need_readertexts T.F_need_readertexts.kp T.b_need_readertexts .nil (fun σ => passAt (takes_of rfl rfl rfl rfl) σ) (pa_cons (pe_and (pe_chain uo_le uo_le pe_int (pe_callB uk_len rfl T.z_len boot_len (pa_cons (uv 0 (hv := vi_number_in_0)) pa_nil)) pe_int) (pe_one (pe_callB (cr_all rfl) rfl T.z_all boot_all (pa_cons (pe_lc (own := [("sign", 2)]) (g := gName 2) rfl sc_number_in.nd (ui_seq (uv 0 (hv := vi_number_in_0))) (blkOk_by (own := [("sign", 2)]) (N := N_number_in) (sc := defScope s_number_in) (by decide +kernel)) (fun _ _ _ _ _ => (pg_name (i := 2) sc_number_in.nd rfl (by first | exact Or.inl rfl | exact Or.inr rfl))) (fun _ _ _ _ _ => pts_nil) (fun _ _ _ _ _ => (pe_cmpR (show OpR _ (compareOp .In) (uIn K false) from uo_in) (uv 2) (pe_con rfl T.m_FIGURES_readertexts) rfl))) pa_nil)))) (pa_cons (uv 1 (hv := vi_number_in_1)) pa_nil))))
      (pss_cons (ps_expr (pe_callD (ok_need_readertexts T) (hr.mono (by decide)) rfl T.m_need_readertexts T.F_need_readertexts.kp T.b_need_readertexts .nil (fun σ => passAt (takes_of rfl rfl rfl rfl) σ) (pa_cons (pe_or (pe_cmpR op_eq (uv 0 (hv := vi_number_in_0)) pe_str (nomark _)) (pe_one (pe_cmpR op_ne (pe_ix ux_seq (uv 0 (hv := vi_number_in_0)) pe_int (fun _ _ => rfl)) pe_str (nomark _)))) (pa_cons (uv 1 (hv := vi_number_in_1)) pa_nil))))
      (pss_one (ps_ret (pe_callTy uk_int10 rfl T.z_int boot_int (pa_cons (uv 0 (hv := vi_number_in_0)) (pa_cons pe_int pa_nil))))))), ?_⟩
  have hz2 : z.length ≤ 1000000 := Nat.le_trans hz (by decide)
  walk_at "go"
  refine g_lenStr hz2 ?_
  walk_at "go"
  refine i_d (fun c1 => ?_) fun c1 => ?_
  rotate_left
  · walk_at "go"
    refine ⟨_, _, rfl, fun y => (nomatch y), fun _ d H' e hx => q0 (numIn_none fun y => c1 (by omega)) d H' e hx⟩
  walk_at "go"
  refine i_d (fun c2 => ?_) fun c2 => ?_
  rotate_left
  · walk_at "go"
    refine ⟨_, _, rfl, fun y => (nomatch y), fun _ d H' e hx => q0 (numIn_none fun y => c2 (by omega)) d H' e hx⟩
  walk_at "go"
  refine g_seqSs ?_
  walk_at "go"
  refine ⟨_, rfl, fun D hD => ?_⟩
  refine lc_mapE walk_str (fun i _ v => ∃ c, z.cps.toList[i]? = some c ∧ v = .bl (decide (c ∈ figS.cps.toList))) (by show z.length ≤ _; omega) hD (fun _ _ _ _ _ r => r) (fun _ _ => trivial) ?_ ?_
  · rintro i x H2 H3 P N hi e ⟨rfl, c, hc, rfl⟩ k
    walk_at "go"
    refine ⟨rfl, ?_⟩
    walk_at "go"
    refine g_inS rfl ?_
    exact k _ _ (Ex.refl _) ⟨c, by simpa using hc, rfl⟩
  intro H2 acc e2 ha hl hr2
  walk_at "go"
  have ea : acc = (z.cps.toList.map fun c => decide (c ∈ figS.cps.toList)).map V.bl := by
    rw [List.map_map]
    refine acc_map (xs := z.cps.toList) (by rw [hl]; exact str_len z) fun j v hj => ?_
    obtain ⟨c, hc, rfl⟩ := hr2 j v hj
    exact ⟨c, hc, rfl⟩
  refine g_all (ea ▸ ha) ?_
  have eal : ((z.cps.toList.map fun c => decide (c ∈ figS.cps.toList)).all id) = true ↔ ∀ c ∈ z.cps.toList, c ∈ figS.cps.toList := by
    rw [List.all_map, List.all_eq_true]
    exact ⟨fun h c hc => of_decide_eq_true (h c hc), fun h c hc => decide_eq_true (h c hc)⟩
  walk_at "go"
  refine ⟨_, _, rfl, fun c3 => ?_, fun c3 d H' e hx => q0 (numIn_none fun y => by rw [eal.2 y.2.1] at c3; cases c3) d H' (e2.trans e) hx⟩
  replace c3 := eal.1 c3
  walk_at "go"
  have done : (z = "0" ∨ z.cps.toList.headD 0 ≠ 48) → ∀ H', Ex H H' → intText? z = some (intT z) ∧ Q (.int (intT z)) H' := fun y H' e => by
    obtain ⟨n1, n2⟩ := numIn_some ⟨by omega, by omega⟩ c3 y
    exact ⟨n2, q1 _ n1 _ e⟩
  refine i_eqS (fun c4 => ?_) fun c4 => ?_
  · walk_at "go"
    refine ⟨_, _, rfl, fun _ => ?_, fun y => (nomatch y)⟩
    obtain ⟨d1, d2⟩ := done (.inl c4) _ e2
    walk_at "go"
    exact g_int10 (by omega) d1 d2
  · have el := str_len z
    cases ez : z.cps.toList with
    | nil => rw [ez] at el; exact absurd el (by simp only [List.length_nil]; omega)
    | cons c0 r0 =>
      walk_at "go"
      refine g_ixS (c := c0) (by rw [ez]; exact (show atI (c0 :: r0) ((0 : Nat) : Int) = some c0 from atI_nat rfl)) hz2 ?_
      walk_at "go"
      rw [ez] at done
      rw [first_zero]
      refine ⟨_, _, rfl, fun c5 => ?_, fun c5 d H' e hx => q0 (numIn_none fun y => ?_) d H' (e2.trans e) hx⟩
      · have c6 : c0 ≠ 48 := by simpa using c5
        obtain ⟨d1, d2⟩ := done (.inr c6) _ e2
        walk_at "go"
        exact g_int10 (by omega) d1 d2
      · have c6 : c0 = 48 := by simpa using c5
        rcases y.2.2 with y | y
        · exact c4 y
        · rw [ez] at y
          exact y c6
theorem vi_look_term_0 : Vis (defScope s_look_term) "counts" := by first | exact Or.inl (by decide +kernel) | exact Or.inr (Or.inl (by decide +kernel)) | exact Or.inr (Or.inr (by decide +kernel))
theorem vi_look_term_1 : Vis (defScope s_look_term) "parts" := by first | exact Or.inl (by decide +kernel) | exact Or.inr (Or.inl (by decide +kernel)) | exact Or.inr (Or.inr (by decide +kernel))
theorem vi_look_term_2 : Vis (defScope s_look_term) "term" := by first | exact Or.inl (by decide +kernel) | exact Or.inr (Or.inl (by decide +kernel)) | exact Or.inr (Or.inr (by decide +kernel))
theorem vi_look_term_3 : Vis (defScope s_look_term) "maker" := by first | exact Or.inl (by decide +kernel) | exact Or.inr (Or.inl (by decide +kernel)) | exact Or.inr (Or.inr (by decide +kernel))
theorem vi_look_term_4 : Vis (defScope s_look_term) "number" := by first | exact Or.inl (by decide +kernel) | exact Or.inr (Or.inl (by decide +kernel)) | exact Or.inr (Or.inr (by decide +kernel))
theorem vi_look_term_5 : Vis (defScope s_look_term) "boxes" := by first | exact Or.inl (by decide +kernel) | exact Or.inr (Or.inl (by decide +kernel)) | exact Or.inr (Or.inr (by decide +kernel))
theorem vi_look_term_6 : Vis (defScope s_look_term) "part" := by first | exact Or.inl (by decide +kernel) | exact Or.inr (Or.inl (by decide +kernel)) | exact Or.inr (Or.inr (by decide +kernel))
theorem vi_look_term_7 : Vis (defScope s_look_term) "box" := by first | exact Or.inl (by decide +kernel) | exact Or.inr (Or.inl (by decide +kernel)) | exact Or.inr (Or.inr (by decide +kernel))
theorem lo_look_term_4 : Loc (defScope s_look_term) "number" := by first | exact Or.inl (by decide +kernel) | exact Or.inr (by decide +kernel)
theorem lo_look_term_5 : Loc (defScope s_look_term) "boxes" := by first | exact Or.inl (by decide +kernel) | exact Or.inr (by decide +kernel)
theorem lo_look_term_6 : Loc (defScope s_look_term) "part" := by first | exact Or.inl (by decide +kernel) | exact Or.inr (by decide +kernel)
theorem lo_look_term_7 : Loc (defScope s_look_term) "box" := by first | exact Or.inl (by decide +kernel) | exact Or.inr (by decide +kernel)
theorem ok_look_term (T : Txt K mg) : FnOk P w K mg base (L2.CX P w) 5 T.a_look_term T.d_look_term ["counts", "parts", "term", "maker"] (spLookTm T.a_NoReader) := by
  refine T.F_look_term.okX sc_look_term (fun vs H Q E h => ?_) (fun cdv A outer s H vs Q E hr h => ?_)
  · obtain ⟨_, _, _, _, _, _, _, rfl, _⟩ := h
    rfl
  obtain ⟨c, p, cs, ps, t, v, s, rfl, hc, hp, rt, tb, pl, pin, q1, q0⟩ := h
  refine ⟨_, (pss_cons (ps_asg (uv 2 (hv := vi_look_term_2)) (pg_tup rfl (pgs_cons (pg_name (i := 4) sc_look_term.nd rfl lo_look_term_4) (pgs_cons (pg_name (i := 5) sc_look_term.nd rfl lo_look_term_5) pgs_nil))))
      (pss_cons (ps_expr (pe_callD (ok_need_readers T) (hr.mono (by decide)) rfl T.m_need_readers T.F_need_readers.kp T.b_need_readers .nil (fun σ => passAt (takes_of rfl rfl rfl rfl) σ) (pa_cons (pe_callD (ok_is_fraction T) (hr.mono (by decide)) rfl T.m_is_fraction T.F_is_fraction.kp T.b_is_fraction .nil (fun σ => passAt (takes_of rfl rfl rfl rfl) σ) (pa_cons (uv 4 (hv := vi_look_term_4)) pa_nil)) (pa_cons pe_str (pa_cons (uv 3 (hv := vi_look_term_3)) pa_nil)))))
      (pss_cons (ps_expr (pe_callD (ok_need_readers T) (hr.mono (by decide)) rfl T.m_need_readers T.F_need_readers.kp T.b_need_readers .nil (fun σ => passAt (takes_of rfl rfl rfl rfl) σ) (pa_cons (pe_cmpR op_eq (pe_callB uk_len rfl T.z_len boot_len (pa_cons (uv 5 (hv := vi_look_term_5)) pa_nil)) (pe_callB uk_len rfl T.z_len boot_len (pa_cons (uv 1 (hv := vi_look_term_1)) pa_nil)) (nomark _)) (pa_cons pe_str (pa_cons (uv 3 (hv := vi_look_term_3)) pa_nil)))))
      (pss_one (ps_for (passes_of rfl) rfl (pi_zipS rfl T.z_zip (pa_cons (uv 1 (hv := vi_look_term_1)) (pa_cons (uv 5 (hv := vi_look_term_5)) pa_nil)) pe_bl) (pg_tup rfl (pgs_cons (pg_name (i := 6) sc_look_term.nd rfl lo_look_term_6) (pgs_cons (pg_name (i := 7) sc_look_term.nd rfl lo_look_term_7) pgs_nil))) (pss_one (ps_expr (pe_callD (ok_need_readers T) (hr.mono (by decide)) rfl T.m_need_readers T.F_need_readers.kp T.b_need_readers .nil (fun σ => passAt (takes_of rfl rfl rfl rfl) σ) (pa_cons (pe_or (pe_cmpR uo_isN (uv 7 (hv := vi_look_term_7)) pe_non (nomark _)) (pe_one (pe_chain uo_le uo_lt pe_int (uv 7 (hv := vi_look_term_7)) (pe_ix ux_seq (uv 0 (hv := vi_look_term_0)) (uv 6 (hv := vi_look_term_6)) (fun _ _ => rfl))))) (pa_cons pe_str (pa_cons (uv 3 (hv := vi_look_term_3)) pa_nil))))))))))), ?_⟩
  obtain ⟨a, f, bq, rfl, ha, hf, hbq⟩ := tm_at rt
  have tb1 := tb.boxes
  replace q0 : ∀ x, dueTm cs ps t = some x → ∀ d H', Ex H H' → H' d = some (.xd [("maker", .str s), ("word", .str x)]) → E (.ref T.a_NoReader) (some d) H' := fun x hx d H' e hd => q0 (x, s) (by rw [hx]; rfl) d H' e hd
  replace q1 : dueTm cs ps t = none → ∀ H', Ex H H' → Q .non H' := fun hx => q1 (by rw [hx]; rfl)
  unfold dueTm at q0 q1
  walk_at "go"
  refine g_tup2 ha ?_
  walk_at "go"
  refine ⟨f, t.1.1, t.1.2, rfl, hf, tb.upper, tb.lower, fun H1 e1 => ?_⟩
  walk_at "go"
  refine ⟨_, _, _, rfl, fun c1 => ?_, fun c1 dx H' e hx => q0 _ (if_neg (of_decide_eq_false c1)) _ _ (e1.trans e) hx⟩
  replace c1 := of_decide_eq_true c1
  rw [if_pos c1] at q0 q1
  have hb1 := e1 _ _ hbq
  have hp1 := e1 _ _ hp
  walk_at "go"
  have el : decide (V.int ((t.2.map bxV).length : Nat) = V.int ((ps.map V.int).length : Nat)) = decide (t.2.length = ps.length) := by
    rw [List.length_map, List.length_map]
    by_cases c : t.2.length = ps.length
    · rw [c, decide_eq_true rfl, decide_eq_true rfl]
    · rw [decide_eq_false c, decide_eq_false fun z => c (by injection z with z; omega)]
  rw [el]
  refine ⟨_, _, _, rfl, fun c2 => ?_, fun c2 dx H' e hx => q0 _ (if_neg (of_decide_eq_false c2)) _ _ (e1.trans e) hx⟩
  replace c2 := of_decide_eq_true c2
  rw [if_pos c2] at q0 q1
  walk_at "go"
  refine ⟨true, true, p, bq, _, _, rfl, sqT hp1, sqT hb1, ?_⟩
  have lps : (ps.map V.int).length = ps.length := List.length_map _
  have ltb : (t.2.map bxV).length = t.2.length := List.length_map _
  refine for_it (walk_zipS (k1 := true) (k2 := true) (by omega)) (fun i σ H2 => (∃ o6 o7, σ = [some (.ref c), some (.ref p), some (.ref a), some (.str s), some (.ref f), some (.ref bq), o6, o7]) ∧ Ex H H2 ∧ ∀ j, j < i → ∀ x, (ps.zip t.2)[j]? = some x → boxOk cs x = true) ⟨⟨none, none, rfl⟩, e1, fun j hj => by omega⟩ (fun i σ H2 _ h => ⟨sqT (h.2.1 _ _ hp), sqT (h.2.1 _ _ hbq)⟩) ?_ ?_
  · rintro i x σ H2 H2' hi ⟨⟨o6, o7, rfl⟩, e2, hok⟩ ⟨Tp, x, y, rfl, hTp, rfl, hx, hy⟩
    replace hx : (ps.map V.int)[i]? = some x := hx
    replace hy : (t.2.map bxV)[i]? = some y := hy
    rw [List.getElem?_map] at hx hy
    cases en : ps[i]? with
    | none => rw [en] at hx; cases hx
    | some pn =>
      cases eb : t.2[i]? with
      | none => rw [eb] at hy; cases hy
      | some bo =>
        rw [en] at hx
        rw [eb] at hy
        cases hx
        have ez : (ps.zip t.2)[i]? = some (pn, bo) := List.getElem?_zip_eq_some.2 ⟨en, eb⟩
        have nx : ∀ H', Ex H H' → boxOk cs (pn, bo) = true → (∃ o6 o7, [some (.ref c), some (.ref p), some (.ref a), some (.str s), some (.ref f), some (.ref bq), some (V.int pn), some y] = [some (.ref c), some (.ref p), some (.ref a), some (.str s), some (.ref f), some (.ref bq), o6, o7]) ∧ Ex H H' ∧ ∀ j, j < i + 1 → ∀ x, (ps.zip t.2)[j]? = some x → boxOk cs x = true := fun H' e hb => ⟨⟨_, _, rfl⟩, e, fun j hj x hx => by
          rcases Nat.lt_succ_iff_lt_or_eq.1 hj with hj | rfl
          · exact hok j hj x hx
          · rw [ez] at hx
            cases hx
            exact hb⟩
        have no : boxOk cs (pn, bo) = false → ¬ (ps.zip t.2).all (boxOk cs) = true := fun h z => by
          have := List.all_eq_true.1 z _ (List.mem_of_getElem? ez)
          rw [h] at this
          cases this
        have pin' := pin pn (List.mem_of_getElem? en)
        have e3 := Ex.new (o := .tup [.int pn, y]) hTp
        refine g_tup2 upd_same ?_
        cases bo with
        | none =>
          cases hy
          have ev : bxV none = V.non := rfl
          rw [ev] at nx e3 ⊢
          walk_at "go"
          refine ⟨_, _, _, rfl, fun _ => nx _ (e2.trans e3) rfl, fun z => absurd z (by decide)⟩
        | some bi =>
          cases hy
          have ev : bxV (some bi) = V.int bi := rfl
          rw [ev] at nx e3 ⊢
          walk_at "go"
          refine i_d (fun c3 => ?_) fun c3 => ?_
          · walk_at "go"
            refine g_ixT (e3 _ _ (e2 _ _ hc)) (cnt_at pin'.1 pin'.2) ?_
            walk_at "go"
            refine ⟨_, _, _, rfl, fun c4 => nx _ (e2.trans e3) (decide_eq_true ⟨c3, of_decide_eq_true c4⟩), fun c4 dx H' e hx => q0 _ (if_neg (no (decide_eq_false fun z => of_decide_eq_false c4 z.2))) _ _ ((e2.trans e3).trans e) hx⟩
          · walk_at "go"
            refine ⟨_, _, _, rfl, fun z => absurd z (by decide), fun c4 dx H' e hx => q0 _ (if_neg (no (decide_eq_false fun z => c3 z.1))) _ _ ((e2.trans e3).trans e) hx⟩
  · rintro σ H2 ⟨⟨o6, o7, rfl⟩, e2, hok⟩
    walk_at "go"
    refine q1 (if_pos (List.all_eq_true.2 fun x hx => ?_)) _ e2
    obtain ⟨j, hj⟩ := List.mem_iff_getElem?.1 hx
    refine hok j ?_ x hj
    have := (List.getElem?_eq_some_iff.1 hj).1
    rw [List.length_zip] at this
    omega
theorem vi_read_term_0 : Vis (defScope s_read_term) "text" := by first | exact Or.inl (by decide +kernel) | exact Or.inr (Or.inl (by decide +kernel)) | exact Or.inr (Or.inr (by decide +kernel))
theorem vi_read_term_1 : Vis (defScope s_read_term) "many" := by first | exact Or.inl (by decide +kernel) | exact Or.inr (Or.inl (by decide +kernel)) | exact Or.inr (Or.inr (by decide +kernel))
theorem vi_read_term_2 : Vis (defScope s_read_term) "row" := by first | exact Or.inl (by decide +kernel) | exact Or.inr (Or.inl (by decide +kernel)) | exact Or.inr (Or.inr (by decide +kernel))
theorem vi_read_term_3 : Vis (defScope s_read_term) "parts" := by first | exact Or.inl (by decide +kernel) | exact Or.inr (Or.inl (by decide +kernel)) | exact Or.inr (Or.inr (by decide +kernel))
theorem vi_read_term_4 : Vis (defScope s_read_term) "number" := by first | exact Or.inl (by decide +kernel) | exact Or.inr (Or.inl (by decide +kernel)) | exact Or.inr (Or.inr (by decide +kernel))
theorem vi_read_term_5 : Vis (defScope s_read_term) "boxes" := by first | exact Or.inl (by decide +kernel) | exact Or.inr (Or.inl (by decide +kernel)) | exact Or.inr (Or.inr (by decide +kernel))
theorem vi_read_term_6 : Vis (defScope s_read_term) "least" := by first | exact Or.inl (by decide +kernel) | exact Or.inr (Or.inl (by decide +kernel)) | exact Or.inr (Or.inr (by decide +kernel))
theorem vi_read_term_7 : Vis (defScope s_read_term) "word" := by first | exact Or.inl (by decide +kernel) | exact Or.inr (Or.inl (by decide +kernel)) | exact Or.inr (Or.inr (by decide +kernel))
theorem vi_read_term_8 : Vis (defScope s_read_term) "part" := by first | exact Or.inl (by decide +kernel) | exact Or.inr (Or.inl (by decide +kernel)) | exact Or.inr (Or.inr (by decide +kernel))
theorem vi_read_term_9 : Vis (defScope s_read_term) "dot" := by first | exact Or.inl (by decide +kernel) | exact Or.inr (Or.inl (by decide +kernel)) | exact Or.inr (Or.inr (by decide +kernel))
theorem vi_read_term_10 : Vis (defScope s_read_term) "box" := by first | exact Or.inl (by decide +kernel) | exact Or.inr (Or.inl (by decide +kernel)) | exact Or.inr (Or.inr (by decide +kernel))
theorem lo_read_term_3 : Loc (defScope s_read_term) "parts" := by first | exact Or.inl (by decide +kernel) | exact Or.inr (by decide +kernel)
theorem lo_read_term_4 : Loc (defScope s_read_term) "number" := by first | exact Or.inl (by decide +kernel) | exact Or.inr (by decide +kernel)
theorem lo_read_term_5 : Loc (defScope s_read_term) "boxes" := by first | exact Or.inl (by decide +kernel) | exact Or.inr (by decide +kernel)
theorem lo_read_term_6 : Loc (defScope s_read_term) "least" := by first | exact Or.inl (by decide +kernel) | exact Or.inr (by decide +kernel)
theorem lo_read_term_7 : Loc (defScope s_read_term) "word" := by first | exact Or.inl (by decide +kernel) | exact Or.inr (by decide +kernel)
theorem lo_read_term_8 : Loc (defScope s_read_term) "part" := by first | exact Or.inl (by decide +kernel) | exact Or.inr (by decide +kernel)
theorem lo_read_term_9 : Loc (defScope s_read_term) "dot" := by first | exact Or.inl (by decide +kernel) | exact Or.inr (by decide +kernel)
theorem lo_read_term_10 : Loc (defScope s_read_term) "box" := by first | exact Or.inl (by decide +kernel) | exact Or.inr (by decide +kernel)
theorem ok_read_term (T : Txt K mg) : FnOk P w K mg base (L2.CX P w) 5 T.a_read_term T.d_read_term ["text", "many", "row"] spReadTm := by
  refine T.F_read_term.okX sc_read_term (fun vs H Q E h => ?_) (fun cdv A outer s H vs Q E hr h => ?_)
  · obtain ⟨_, _, _, _, rfl, _⟩ := h
    rfl
  obtain ⟨z, many, xr, t, rfl, hz, hm, et, q⟩ := h
  refine ⟨_, (pss_cons (ps_set (i := 3) sc_read_term.nd rfl lo_read_term_3 (pe_split (uv 0 (hv := vi_read_term_0)) pe_str))
      (pss_cons (ps_set (i := 4) sc_read_term.nd rfl lo_read_term_4 (pe_tup (pa_cons pe_int (pa_cons pe_int pa_nil))))
      (pss_cons (ps_try_only rfl rfl ⟨rfl, by decide, .inl T.m_NoText⟩ (takes_of rfl rfl rfl rfl) (fun W pn xe tk po => (pss_one (ps_set (i := 4) sc_read_term.nd rfl lo_read_term_4 (pe_callD (ok_read_fraction T) (hr.mono (by decide)) rfl T.m_read_fraction T.F_read_fraction.kp T.b_read_fraction .nil (fun σ => passAt tk σ) (pa_cons (pe_ix (show IxR _ (uIx K) from ux_seq) (uv 3 (hv := vi_read_term_3)) pe_int (fun _ _ => rfl)) pa_nil))))) (fun a oe cls d pn hz hf => (pss_one (ps_no))))
      (pss_cons (ps_set (i := 5) sc_read_term.nd rfl lo_read_term_5 (pe_op op_rep (pe_lst (pa_cons pe_non pa_nil)) (uv 1 (hv := vi_read_term_1))))
      (pss_cons (ps_set (i := 6) sc_read_term.nd rfl lo_read_term_6 pe_int)
      (pss_cons (ps_for (passes_of rfl) rfl (ui_seq (pe_slice us_sl (uv 3 (hv := vi_read_term_3)) (po_some pe_int) po_none)) (pg_name (i := 7) sc_read_term.nd rfl lo_read_term_7) (pss_cons (ps_asg (pe_partition (uv 7 (hv := vi_read_term_7)) pe_str) (pg_tup rfl (pgs_cons (pg_name (i := 8) sc_read_term.nd rfl lo_read_term_8) (pgs_cons (pg_name (i := 9) sc_read_term.nd rfl lo_read_term_9) (pgs_cons (pg_name (i := 10) sc_read_term.nd rfl lo_read_term_10) pgs_nil)))))
      (pss_cons (ps_expr (pe_callD (ok_need_readertexts T) (hr.mono (by decide)) rfl T.m_need_readertexts T.F_need_readertexts.kp T.b_need_readertexts .nil (fun σ => passAt (takes_of rfl rfl rfl rfl) σ) (pa_cons (pe_and (pe_cmpR uo_in (uv 8 (hv := vi_read_term_8)) (pe_tup (pa_cons pe_str (pa_cons pe_str pa_nil))) rfl) (pe_one (pe_cmpR op_eq (uv 9 (hv := vi_read_term_9)) pe_str (nomark _)))) (pa_cons (uv 2 (hv := vi_read_term_2)) pa_nil))))
      (pss_cons (ps_expr (pe_callD (ok_need_readertexts T) (hr.mono (by decide)) rfl T.m_need_readertexts T.F_need_readertexts.kp T.b_need_readertexts .nil (fun σ => passAt (takes_of rfl rfl rfl rfl) σ) (pa_cons (pe_chain uo_le uo_lt (uv 6 (hv := vi_read_term_6)) (pe_callTy uk_int10 rfl T.z_int boot_int (pa_cons (uv 8 (hv := vi_read_term_8)) (pa_cons pe_int pa_nil))) (uv 1 (hv := vi_read_term_1))) (pa_cons (uv 2 (hv := vi_read_term_2)) pa_nil))))
      (pss_cons (ps_asg (pe_callD (ok_number_in T) (hr.mono (by decide)) rfl T.m_number_in T.F_number_in.kp T.b_number_in .nil (fun σ => passAt (takes_of rfl rfl rfl rfl) σ) (pa_cons (uv 10 (hv := vi_read_term_10)) (pa_cons (uv 2 (hv := vi_read_term_2)) pa_nil))) (pg_sub (uv 5 (hv := vi_read_term_5)) (pe_callTy uk_int10 rfl T.z_int boot_int (pa_cons (uv 8 (hv := vi_read_term_8)) (pa_cons pe_int pa_nil))) set_list))
      (pss_one (ps_set (i := 6) sc_read_term.nd rfl lo_read_term_6 (pe_op uo_add (pe_callTy uk_int10 rfl T.z_int boot_int (pa_cons (uv 8 (hv := vi_read_term_8)) (pa_cons pe_int pa_nil))) pe_int))))))))
      (pss_one (ps_ret (pe_tup (pa_cons (uv 4 (hv := vi_read_term_4)) (pa_cons (pe_callTy uk_tup rfl T.z_tuple boot_tuple (pa_cons (uv 5 (hv := vi_read_term_5)) pa_nil)) pa_nil))))))))))), ?_⟩
  walk_at "go"
  obtain ⟨p0, rest, f, st, es, ef, ew, rfl⟩ := readTm_some et
  refine ⟨z, " ", rfl, rfl, by decide, Nat.le_trans (by omega : z.length + 2 ≤ 1000000) (by decide), fun PL hPL => ?_⟩
  obtain ⟨_, slen, sps⟩ := split_ok (x := z) (y := " ") (s := 32) rfl (by decide)
  rw [es] at slen sps ⊢
  have e1 := Ex.new (o := .lst ((p0 :: rest).map V.str)) hPL
  have a1 := @upd_same H PL (.lst ((p0 :: rest).map V.str))
  revert e1 a1
  generalize upd H PL (.lst ((p0 :: rest).map V.str)) = H1
  intro e1 a1
  walk_at "go"
  refine g_new fun t0 ht0 => ?_
  have k2 := Ex.new (o := .tup [.int 0, .int 1]) ht0
  have e2 := e1.trans k2
  have a2 := k2 _ _ a1
  revert e2 a2
  clear k2
  generalize upd H1 t0 (.tup [.int 0, .int 1]) = H2
  intro e2 a2
  walk_at "go"
  refine g_ixL (i := 0) a2 (show atI ((p0 :: rest).map V.str) ((0 : Nat) : Int) = some (.str p0) from atI_nat rfl) ?_
  walk_at "go"
  refine ⟨p0, rfl, by have := (sps p0 List.mem_cons_self).2.1; omega, fun y => (by rw [ef] at y; cases y), fun f' hf' qa H3 e3 hq => ?_⟩
  obtain rfl : f' = f := Option.some.inj (hf'.symm.trans ef)
  have a3 := e3 _ _ a2
  have e23 := e2.trans e3
  walk_at "go"
  refine g_new fun L0 hL0 => ?_
  have k4 := Ex.new (o := .lst [.non]) hL0
  have hq4 := k4 _ _ hq
  have a4 := k4 _ _ a3
  have e24 := e23.trans k4
  have l4 := @upd_same H3 L0 (.lst [.non])
  revert hq4 a4 e24 l4
  clear k4
  generalize upd H3 L0 (.lst [.non]) = H4
  intro hq4 a4 e24 l4
  walk_at "go"
  refine g_repN l4 (by omega) fun B hB => ?_
  walk_at "go"
  refine g_seqLs ?_
  walk_at "go"
  have nPB : PL ≠ B := ne_of_none a4 hB
  have nQB : qa ≠ B := ne_of_none hq4 hB
  have k5 := Ex.new (o := .lst (List.replicate many V.non)) hB
  have a5 := k5 _ _ a4
  have hq5 := k5 _ _ hq4
  have e25 := e24.trans k5
  have b5 := @upd_same H4 B (.lst (List.replicate many V.non))
  have hBH : H B = none := e24.free hB
  revert a5 hq5 e25 b5
  clear k5
  generalize upd H4 B (.lst (List.replicate many V.non)) = H5
  intro a5 hq5 e25 b5
  refine g_slLU a5 fun RL hRL => ?_
  rw [show cutV ((p0 :: rest).map V.str) (some 1) none = rest.map V.str from cutV_tail _ _]
  have k6 := Ex.new (o := .lst (rest.map V.str)) hRL
  have nRB : RL ≠ B := (ne_of_none b5 hRL).symm
  have hq6 := k6 _ _ hq5
  have b6 := k6 _ _ b5
  have r6 := @upd_same H5 RL (.lst (rest.map V.str))
  have e26 := e25.trans k6
  revert hq6 b6 r6 e26
  clear k6
  generalize upd H5 RL (.lst (rest.map V.str)) = H6
  intro hq6 b6 r6 e26
  refine ⟨_, rfl, ⟨_, sqL r6⟩, ?_⟩
  have lrest : rest.length ≤ z.length := by rw [List.length_cons] at slen; omega
  refine for_it walk_list (fun i σ H7 => (∃ o7 o8 o9 o10 l bs, σ = [some (.str z), some (.int (many : Nat)), some xr, some (.ref PL), some (.ref qa), some (.ref B), some (.int l), o7, o8, o9, o10] ∧ H7 B = some (.lst (bs.map bxV)) ∧ bs.length = many ∧ wordsF many (bs, l) (rest.drop i) = some st) ∧ But B H6 H7) ⟨⟨_, _, _, _, 0, List.replicate many none, rfl, by rw [List.map_replicate]; exact b6, List.length_replicate, ew⟩, But.refl _ _⟩ (fun i σ H7 _ h => sqL (h.2 _ _ nRB r6)) ?_ ?_
  · rintro i x σ H7 H7' hi ⟨⟨o7, o8, o9, o10, l, bs, rfl, hb7, lb, ef7⟩, bt⟩ ⟨rfl, hx⟩
    rw [List.length_map] at hi
    replace hx : (rest.map V.str)[i]? = some x := hx
    have er := List.getElem?_eq_getElem hi
    have mr := List.getElem_mem hi
    rw [List.getElem?_map, er] at hx
    rw [drop_at er] at ef7
    revert hx mr ef7
    generalize rest[i] = wd
    intro ef7 hx mr
    cases hx
    obtain ⟨st', s1, s2⟩ := wordsF_cons ef7
    obtain ⟨n, b, n2, p1, p2, p3, p4, p5, rfl⟩ := wordStep_some s1
    obtain ⟨pl1, pl2, _, _⟩ := part_ok (z := wd) (y := ".") dot_list
    have lwd := (sps wd (List.mem_cons_of_mem _ mr)).2.1
    walk_at "go"
    (try refine g_m1 ?_)
    walk_at "go"
    refine ⟨wd, ".", rfl, rfl, by decide, Nat.le_trans (by omega : wd.length ≤ 1000000) (by decide), fun T1 hT1 => ?_⟩
    rw [p1, p2]
    revert p5 pl2
    generalize (Txt.partition wd ".").2.2 = bx
    intro p5 pl2
    obtain ⟨i1, i2, i3⟩ := numT_int n2
    have nn := numT_two n2
    revert i1 i2 i3 nn
    generalize numT ((n : Nat) : Int) = pt
    intro i1 i2 i3 nn
    have k8 := Ex.new (o := .tup [.str pt, .str ".", .str bx]) hT1
    refine g_tup3 upd_same ?_
    have hb8 := k8 _ _ hb7
    have bt8 := bt.trans (k8.but B)
    revert hb8 bt8
    clear k8
    generalize upd H7' T1 (.tup [.str pt, .str ".", .str bx]) = H8
    intro hb8 bt8
    walk_at "go"
    refine g_new fun T2 hT2 => ?_
    have k9 := Ex.new (o := .tup [.str "0", .str "1"]) hT2
    refine g_inT2 upd_same ?_
    have hb9 := k9 _ _ hb8
    have bt9 := bt8.trans (k9.but B)
    revert hb9 bt9
    clear k9
    generalize upd H8 T2 (.tup [.str "0", .str "1"]) = H9
    intro hb9 bt9
    rw [decide_eq_true (show pt ∈ (["0", "1"] : List Str) by rcases nn with rfl | rfl <;> simp)]
    walk_at "go"
    refine ⟨true, _, rfl, fun _ => ?_, fun y => (nomatch y)⟩
    walk_at "go"
    refine g_int10 i3 i1 ?_
    rw [i2]
    walk_at "go"
    rw [decide_eq_true p3]
    walk_at "go"
    rw [decide_eq_true (show (n : Int) < (many : Int) by omega)]
    walk_at "go"
    refine ⟨true, _, rfl, fun _ => ?_, fun y => (nomatch y)⟩
    walk_at "go"
    refine ⟨bx, xr, rfl, by omega, fun y => (by rw [p5] at y; cases y), fun b' hb' H10 e10 => ?_⟩
    obtain rfl : b' = b := Option.some.inj (hb'.symm.trans p5)
    have hb10 := e10 _ _ hb9
    have bt10 := bt9.trans (e10.but B)
    walk_at "go"
    refine g_int10 i3 i1 ?_
    rw [i2]
    refine g_setL hb10 (show ixN (bs.map bxV).length ((n : Nat) : Int) = some n by rw [List.length_map]; exact ixNat (by omega)) ?_
    walk_at "go"
    refine g_int10 i3 i1 ?_
    rw [i2]
    walk_at "go"
    refine ⟨⟨_, _, _, _, _, bs.set n (some b'), rfl, ?_, by rw [List.length_set]; exact lb, s2⟩, bt10.upd⟩
    rw [upd_same, List.map_set]
    rfl
  · rintro σ H7 ⟨⟨o7, o8, o9, o10, l, bs, rfl, hb7, lb, ef7⟩, bt⟩
    rw [List.length_map, List.drop_length] at ef7
    obtain rfl : (bs, l) = st := Option.some.inj ef7
    have hq7 := bt _ _ nQB hq6
    walk_at "go"
    refine g_tupOf hb7 fun TB hTB => ?_
    walk_at "go"
    refine g_new fun TT hTT => ?_
    have k8 := Ex.new (o := .tup (bs.map bxV)) hTB
    have k9 := Ex.new (o := .tup [.ref qa, .ref TB]) hTT
    refine q _ _ (((Ex.of_but ((e26.but B).trans bt) hBH).trans k8).trans k9) ?_
    exact Rep.tm upd_same (k9 _ _ (k8 _ _ hq7)) (k9 _ _ upd_same)
theorem vi_look_reader_0 : Vis (defScope s_look_reader) "wood" := by first | exact Or.inl (by decide +kernel) | exact Or.inr (Or.inl (by decide +kernel)) | exact Or.inr (Or.inr (by decide +kernel))
theorem vi_look_reader_1 : Vis (defScope s_look_reader) "reader" := by first | exact Or.inl (by decide +kernel) | exact Or.inr (Or.inl (by decide +kernel)) | exact Or.inr (Or.inr (by decide +kernel))
theorem vi_look_reader_2 : Vis (defScope s_look_reader) "counts" := by first | exact Or.inl (by decide +kernel) | exact Or.inr (Or.inl (by decide +kernel)) | exact Or.inr (Or.inr (by decide +kernel))
theorem vi_look_reader_3 : Vis (defScope s_look_reader) "rules" := by first | exact Or.inl (by decide +kernel) | exact Or.inr (Or.inl (by decide +kernel)) | exact Or.inr (Or.inr (by decide +kernel))
theorem vi_look_reader_4 : Vis (defScope s_look_reader) "makers" := by first | exact Or.inl (by decide +kernel) | exact Or.inr (Or.inl (by decide +kernel)) | exact Or.inr (Or.inr (by decide +kernel))
theorem vi_look_reader_5 : Vis (defScope s_look_reader) "table" := by first | exact Or.inl (by decide +kernel) | exact Or.inr (Or.inl (by decide +kernel)) | exact Or.inr (Or.inr (by decide +kernel))
theorem vi_look_reader_6 : Vis (defScope s_look_reader) "maker" := by first | exact Or.inl (by decide +kernel) | exact Or.inr (Or.inl (by decide +kernel)) | exact Or.inr (Or.inr (by decide +kernel))
theorem vi_look_reader_7 : Vis (defScope s_look_reader) "sums" := by first | exact Or.inl (by decide +kernel) | exact Or.inr (Or.inl (by decide +kernel)) | exact Or.inr (Or.inr (by decide +kernel))
theorem vi_look_reader_8 : Vis (defScope s_look_reader) "kind" := by first | exact Or.inl (by decide +kernel) | exact Or.inr (Or.inl (by decide +kernel)) | exact Or.inr (Or.inr (by decide +kernel))
theorem vi_look_reader_9 : Vis (defScope s_look_reader) "parts" := by first | exact Or.inl (by decide +kernel) | exact Or.inr (Or.inl (by decide +kernel)) | exact Or.inr (Or.inr (by decide +kernel))
theorem vi_look_reader_10 : Vis (defScope s_look_reader) "terms" := by first | exact Or.inl (by decide +kernel) | exact Or.inr (Or.inl (by decide +kernel)) | exact Or.inr (Or.inr (by decide +kernel))
theorem vi_look_reader_11 : Vis (defScope s_look_reader) "term" := by first | exact Or.inl (by decide +kernel) | exact Or.inr (Or.inl (by decide +kernel)) | exact Or.inr (Or.inr (by decide +kernel))
theorem lo_look_reader_2 : Loc (defScope s_look_reader) "counts" := by first | exact Or.inl (by decide +kernel) | exact Or.inr (by decide +kernel)
theorem lo_look_reader_3 : Loc (defScope s_look_reader) "rules" := by first | exact Or.inl (by decide +kernel) | exact Or.inr (by decide +kernel)
theorem lo_look_reader_4 : Loc (defScope s_look_reader) "makers" := by first | exact Or.inl (by decide +kernel) | exact Or.inr (by decide +kernel)
theorem lo_look_reader_5 : Loc (defScope s_look_reader) "table" := by first | exact Or.inl (by decide +kernel) | exact Or.inr (by decide +kernel)
theorem lo_look_reader_6 : Loc (defScope s_look_reader) "maker" := by first | exact Or.inl (by decide +kernel) | exact Or.inr (by decide +kernel)
theorem lo_look_reader_7 : Loc (defScope s_look_reader) "sums" := by first | exact Or.inl (by decide +kernel) | exact Or.inr (by decide +kernel)
theorem lo_look_reader_8 : Loc (defScope s_look_reader) "kind" := by first | exact Or.inl (by decide +kernel) | exact Or.inr (by decide +kernel)
theorem lo_look_reader_9 : Loc (defScope s_look_reader) "parts" := by first | exact Or.inl (by decide +kernel) | exact Or.inr (by decide +kernel)
theorem lo_look_reader_10 : Loc (defScope s_look_reader) "terms" := by first | exact Or.inl (by decide +kernel) | exact Or.inr (by decide +kernel)
theorem lo_look_reader_11 : Loc (defScope s_look_reader) "term" := by first | exact Or.inl (by decide +kernel) | exact Or.inr (by decide +kernel)
theorem ok_look_reader (T : Txt K mg) : FnOk P w K mg base (L2.CX P w) 6 T.a_look_reader T.d_look_reader ["wood", "reader"] (spLookRd T.a_NoReader) := by
  refine T.F_look_reader.okX sc_look_reader (fun vs H Q E h => ?_) (fun cdv A outer s H vs Q E hr h => ?_)
  · obtain ⟨_, _, _, _, rfl, _⟩ := h
    rfl
  obtain ⟨wd, r, wv, v, rfl, rw1, ok, rv, rb, q1, q0⟩ := h
  refine ⟨_, (pss_cons (ps_asg (uv 1 (hv := vi_look_reader_1)) (pg_tup rfl (pgs_cons (pg_name (i := 2) sc_look_reader.nd rfl lo_look_reader_2) (pgs_cons (pg_name (i := 3) sc_look_reader.nd rfl lo_look_reader_3) pgs_nil))))
      (pss_cons (ps_expr (pe_callD (ok_need_readers T) (hr.mono (by decide)) rfl T.m_need_readers T.F_need_readers.kp T.bv_need_readers1.choose_spec.2 T.bv_need_readers1.choose_spec.1 (fun σ => passAt (takes_of rfl rfl rfl rfl) σ) (pa_cons (pe_and (pe_cmpR op_eq (pe_callB uk_len rfl T.z_len boot_len (pa_cons (uv 2 (hv := vi_look_reader_2)) pa_nil)) (pe_callB uk_len rfl T.z_len boot_len (pa_cons (uv 0 (hv := vi_look_reader_0)) pa_nil)) (nomark _)) (pe_one (pe_callB (cr_all rfl) rfl T.z_all boot_all (pa_cons (pe_lc (own := [("count", 12)]) (g := gName 12) rfl sc_look_reader.nd (ui_seq (uv 2 (hv := vi_look_reader_2))) (blkOk_by (own := [("count", 12)]) (N := N_look_reader) (sc := defScope s_look_reader) (by decide +kernel)) (fun _ _ _ _ _ => (pg_name (i := 12) sc_look_reader.nd rfl (by first | exact Or.inl rfl | exact Or.inr rfl))) (fun _ _ _ _ _ => pts_nil) (fun _ _ _ _ _ => (pe_chain uo_le uo_le pe_int (uv 12) (pe_con rfl T.m_MOST_BOXES)))) pa_nil)))) (pa_cons pe_str pa_nil))))
      (pss_cons (ps_set (i := 4) sc_look_reader.nd rfl lo_look_reader_4 (pe_callD (ok_makers_of T) (hr.mono (by decide)) rfl T.m_makers_of T.F_makers_of.kp T.b_makers_of .nil (fun σ => passAt (takes_of rfl rfl rfl rfl) σ) (pa_cons (uv 0 (hv := vi_look_reader_0)) pa_nil)))
      (pss_cons (ps_expr (pe_callD (ok_need_readers T) (hr.mono (by decide)) rfl T.m_need_readers T.F_need_readers.kp T.bv_need_readers1.choose_spec.2 T.bv_need_readers1.choose_spec.1 (fun σ => passAt (takes_of rfl rfl rfl rfl) σ) (pa_cons (pe_cmpR op_eq (pe_callB uk_len rfl T.z_len boot_len (pa_cons (uv 3 (hv := vi_look_reader_3)) pa_nil)) (pe_callB uk_len rfl T.z_len boot_len (pa_cons (uv 4 (hv := vi_look_reader_4)) pa_nil)) (nomark _)) (pa_cons pe_str pa_nil))))
      (pss_cons (ps_set (i := 5) sc_look_reader.nd rfl lo_look_reader_5 (pe_callD (ok_maker_table T) (hr.mono (by decide)) rfl T.m_maker_table T.F_maker_table.kp T.b_maker_table .nil (fun σ => passAt (takes_of rfl rfl rfl rfl) σ) (pa_cons (uv 0 (hv := vi_look_reader_0)) pa_nil)))
      (pss_cons (ps_for (passes_of rfl) rfl (pi_zipS rfl T.z_zip (pa_cons (uv 4 (hv := vi_look_reader_4)) (pa_cons (uv 3 (hv := vi_look_reader_3)) pa_nil)) pe_bl) (pg_tup rfl (pgs_cons (pg_name (i := 6) sc_look_reader.nd rfl lo_look_reader_6) (pgs_cons (pg_name (i := 7) sc_look_reader.nd rfl lo_look_reader_7) pgs_nil))) (pss_cons (ps_asg (pe_dget (hu_of hr) (uv 5 (hv := vi_look_reader_5)) (uv 6 (hv := vi_look_reader_6)) (fun _ _ => rfl)) (pg_tup rfl (pgs_cons (pg_name (i := 8) sc_look_reader.nd rfl lo_look_reader_8) (pgs_cons (pg_name (i := 9) sc_look_reader.nd rfl lo_look_reader_9) pgs_nil))))
      (pss_cons (ps_expr (pe_callD (ok_need_readers T) (hr.mono (by decide)) rfl T.m_need_readers T.F_need_readers.kp T.b_need_readers .nil (fun σ => passAt (takes_of rfl rfl rfl rfl) σ) (pa_cons (pe_cmpR op_eq (pe_callB uk_len rfl T.z_len boot_len (pa_cons (uv 7 (hv := vi_look_reader_7)) pa_nil)) (pe_ix ux_seq (uv 2 (hv := vi_look_reader_2)) (uv 8 (hv := vi_look_reader_8)) (fun _ _ => rfl)) (nomark _)) (pa_cons pe_str (pa_cons (uv 6 (hv := vi_look_reader_6)) pa_nil)))))
      (pss_one (ps_for (passes_of rfl) rfl (ui_seq (uv 7 (hv := vi_look_reader_7))) (pg_name (i := 10) sc_look_reader.nd rfl lo_look_reader_10) (pss_one (ps_for (passes_of rfl) rfl (ui_seq (uv 10 (hv := vi_look_reader_10))) (pg_name (i := 11) sc_look_reader.nd rfl lo_look_reader_11) (pss_one (ps_expr (pe_callD (ok_look_term T) (hr.mono (by decide)) rfl T.m_look_term T.F_look_term.kp T.b_look_term .nil (fun σ => passAt (takes_of rfl rfl rfl rfl) σ) (pa_cons (uv 2 (hv := vi_look_reader_2)) (pa_cons (uv 9 (hv := vi_look_reader_9)) (pa_cons (uv 11 (hv := vi_look_reader_11)) (pa_cons (uv 6 (hv := vi_look_reader_6)) pa_nil))))))))))))))
      (pss_one (ps_ret pe_bl)))))))), ?_⟩
  obtain ⟨wa, wx, rfl, hwa, rs⟩ := id rw1.tupI
  have lx : wx.length = wd.length := by rw [rs.len, List.length_map]
  obtain ⟨a, c, b, xs, rfl, ha, hc, hb, rx⟩ := rd_at rv
  walk_at "go"
  refine g_tup2 ha ?_
  walk_at "go"
  have lc0 : (r.1.map V.int).length = r.1.length := List.length_map _
  have rc := rb.counts
  have no : cntsOk wd r.1 = false → dueRd wd r = some (("counts" : Str), ("" : Str)) := fun c => by unfold dueRd; rw [if_neg (by rw [c]; decide)]
  have yes : cntsOk wd r.1 = true → dueRd wd r = if r.2.length = (tabFrom 0 wd).length then dueRls r.1 wd ((tabFrom 0 wd).zip r.2) else some ("rules", "") := fun c => by unfold dueRd; rw [if_pos c]
  refine i_eqI (fun c1 => ?_) fun c1 => ?_
  rotate_left
  · walk_at "go"
    refine ⟨_, _, _, rfl, fun z => absurd z (by decide), fun _ dx H' e hx => q0 _ (no (by unfold cntsOk; rw [decide_eq_false (by omega)]; rfl)) _ _ e hx⟩
  walk_at "go"
  refine g_seqTs ?_
  walk_at "go"
  refine ⟨_, rfl, ⟨_, sqT hc⟩, fun D hD => ?_⟩
  refine lc_mapE walk_tup (fun u _ v => ∃ n, r.1[u]? = some n ∧ v = V.bl (decide (0 ≤ n ∧ n ≤ 4))) (by omega) hD (fun _ _ _ _ _ r => r) (fun H8 e => sqT (e _ _ hc)) ?_ ?_
  · rintro u y H8 H9 P N hu e1 ⟨rfl, hy⟩ k
    rw [List.getElem?_map] at hy
    cases en : r.1[u]? with
    | none => rw [en] at hy; cases hy
    | some n =>
      rw [en] at hy
      cases hy
      walk_at "go"
      refine ⟨rfl, ?_⟩
      walk_at "go"
      refine i_d (fun c0 => ?_) fun c0 => ?_
      · walk_at "go"
        refine k _ _ (Ex.refl _) ⟨n, en, ?_⟩
        congr 1
        by_cases c2 : n ≤ 4
        · rw [decide_eq_true c2, decide_eq_true ⟨c0, c2⟩]
        · rw [decide_eq_false c2, decide_eq_false fun z => c2 z.2]
      · refine k _ _ (Ex.refl _) ⟨n, en, ?_⟩
        rw [decide_eq_false fun z => c0 z.1]
  intro H1 acc e1 hacc hla hr2
  rw [lc0] at hla
  have ea := acc_map hla hr2
  have ea2 : acc = (r.1.map fun n => decide (0 ≤ n ∧ n ≤ 4)).map V.bl := by rw [ea, List.map_map]; rfl
  walk_at "go"
  refine g_all (ea2 ▸ hacc) ?_
  have eall : (r.1.map fun n => decide (0 ≤ n ∧ n ≤ 4)).all id = r.1.all fun c => decide (0 ≤ c ∧ c ≤ 4) := by rw [List.all_map]; rfl
  rw [eall]
  walk_at "go"
  refine ⟨_, _, _, rfl, fun c2 => ?_, fun c2 dx H' e hx => q0 _ (no (by unfold cntsOk; rw [c2]; exact Bool.and_false _)) _ _ (e1.trans e) hx⟩
  have cok : cntsOk wd r.1 = true := by
    unfold cntsOk
    rw [c2, decide_eq_true (by omega)]
    rfl
  replace yes := yes cok
  rw [yes] at q0 q1
  walk_at "go"
  refine ⟨wd, _, rfl, rw1.ex e1, Nat.le_trans ok.names (by decide), ok.row, fun ml H2 hml0 e2 hml => ?_⟩
  have lnm : ((mkNames wd).map V.str).length = (tabFrom 0 wd).length := by rw [List.length_map, ← tab_names wd 0, List.length_map]
  have lxs : xs.length = r.2.length := by rw [rx.len, List.length_map]
  have e12 := e1.trans e2
  have hb2 := e12 _ _ hb
  walk_at "go"
  rw [decInt]
  refine ⟨_, _, _, rfl, fun c3 => ?_, fun c3 dx H' e hx => q0 _ (if_neg (by have := of_decide_eq_false c3; omega)) _ _ (e12.trans e) hx⟩
  replace c3 := of_decide_eq_true c3
  rw [if_pos (by omega)] at q0 q1
  walk_at "go"
  refine ⟨wd, _, rfl, rw1.ex e12, ok.pre, fun d kvs H3 e3 hd hT => ?_⟩
  have e13 := e12.trans e3
  have hb3 := e13 _ _ hb
  have hml3 := e3 _ _ hml
  walk_at "go"
  refine ⟨false, true, ml, b, _, _, rfl, sqL hml3, sqT hb3, ?_⟩
  refine for_it (walk_zipS (k1 := false) (k2 := true) (by omega)) (fun i σ H4 => (∃ o6 o7 o8 o9 o10 o11, σ = [some (.ref wa), some (.ref a), some (.ref c), some (.ref b), some (.ref ml), some (.ref d), o6, o7, o8, o9, o10, o11, none]) ∧ Ex H3 H4 ∧ dueRls r.1 wd ((tabFrom 0 wd).zip r.2) = dueRls r.1 wd (((tabFrom 0 wd).zip r.2).drop i)) ⟨⟨none, none, none, none, none, none, rfl⟩, Ex.refl _, rfl⟩ (fun i σ H4 _ h => ⟨sqL (h.2.1 _ _ hml3), sqT (h.2.1 _ _ hb3)⟩) ?_ ?_
  · rintro i x σ H4 H4' hi ⟨⟨o6, o7, o8, o9, o10, o11, rfl⟩, e4, hE⟩ ⟨Tp, x, y, rfl, hTp, rfl, hx, hy⟩
    replace hx : ((mkNames wd).map V.str)[i]? = some x := hx
    replace hy : xs[i]? = some y := hy
    obtain ⟨rl, erl, ry⟩ := rx.get hy
    rw [List.getElem?_map] at erl
    cases er : r.2[i]? with
    | none => rw [er] at erl; cases erl
    | some rl0 =>
    rw [er] at erl
    cases erl
    cases et : (tabFrom 0 wd)[i]? with
    | none =>
      have := List.getElem?_eq_none_iff.1 et
      omega
    | some e =>
    rw [← tab_names wd 0, List.map_map, List.getElem?_map, et] at hx
    cases hx
    have he := List.mem_of_getElem? et
    obtain ⟨ek, dl, d2, din⟩ := dueOf_in ok he
    rw [drop_at (zip_at et er), dueRls] at hE
    have q0r : ∀ s, dueRl r.1 wd e rl0 = some s → ∀ d H', Ex H H' → H' d = some (.xd [("maker", .str e.2.1), ("word", .str s)]) → E (.ref T.a_NoReader) (some d) H' := fun s hs d H' e' hd => q0 (s, e.2.1) (by rw [hE, hs]; rfl) d H' e' hd
    obtain ⟨p1, t1, a1, hp1, ht1⟩ := hT.2 e he
    rw [dueOf_vals] at ht1
    obtain ⟨sa, ss, rfl, hsa, rss⟩ := Rep.tupI ry
    have lss : ss.length = rl0.length := by rw [rss.len, List.length_map]
    have e5 := Ex.new (o := .tup [.str e.2.1, .ref sa]) hTp
    refine g_tup2 upd_same ?_
    walk_at "go"
    have e45 := e4.trans e5
    have eH5 := e13.trans e45
    refine g_dgS (e45 _ _ hd) a1 ?_
    refine g_tup2 (e45 _ _ hp1) ?_
    have hsa5 := eH5 _ _ hsa
    walk_at "go"
    refine g_ixT (eH5 _ _ hc) (cnt_at (by omega) (by omega)) ?_
    walk_at "go"
    rw [decInt]
    unfold dueRl at q0r hE
    refine ⟨_, _, _, rfl, fun c4 => ?_, fun c4 dx H' e hx => q0r _ (if_neg (by have := of_decide_eq_false c4; omega)) _ _ (eH5.trans e) hx⟩
    have c5 : (rl0.length : Int) = cntAt r.1 e.1 := by have := of_decide_eq_true c4; omega
    rw [if_pos c5] at q0r hE
    walk_at "go"
    refine g_seqTs ?_
    walk_at "go"
    refine ⟨_, rfl, ⟨_, sqT hsa5⟩, ?_⟩
    refine for_it walk_tup (fun j σ H6 => (∃ o10 o11, σ = [some (.ref wa), some (.ref a), some (.ref c), some (.ref b), some (.ref ml), some (.ref d), some (.str e.2.1), some (.ref sa), some (.int (e.1 : Nat)), some (.ref t1), o10, o11, none]) ∧ Ex H3 H6 ∧ dueSms r.1 (dueOf wd e) rl0 = dueSms r.1 (dueOf wd e) (rl0.drop j)) ⟨⟨_, _, rfl⟩, e45, rfl⟩ (fun j σ H6 _ h => sqT ((e13.trans h.2.1) _ _ hsa)) ?_ ?_
    · rintro j x σ H6 H6' hj ⟨⟨o10, o11, rfl⟩, e6, hE2⟩ ⟨rfl, hx⟩
      replace hx : ss[j]? = some x := hx
      obtain ⟨sm, esm, rsm⟩ := rss.get hx
      rw [List.getElem?_map] at esm
      cases es : rl0[j]? with
      | none => rw [es] at esm; cases esm
      | some s0 =>
      rw [es] at esm
      cases esm
      obtain ⟨ta, ts, rfl, hta, rts⟩ := Rep.tupI rsm
      have lts : ts.length = s0.length := by rw [rts.len, List.length_map]
      have tB := (rb.rule rl0 (List.mem_of_getElem? er)).2 s0 (List.mem_of_getElem? es)
      rw [drop_at es, dueSms] at hE2
      have eH6 := e13.trans e6
      have hta6 := eH6 _ _ hta
      walk_at "go"
      refine g_seqTs ?_
      walk_at "go"
      refine ⟨_, rfl, ⟨_, sqT hta6⟩, ?_⟩
      refine for_it walk_tup (fun k σ H7 => (∃ o11, σ = [some (.ref wa), some (.ref a), some (.ref c), some (.ref b), some (.ref ml), some (.ref d), some (.str e.2.1), some (.ref sa), some (.int (e.1 : Nat)), some (.ref t1), some (.ref ta), o11, none]) ∧ Ex H3 H7 ∧ dueTms r.1 (dueOf wd e) s0 = dueTms r.1 (dueOf wd e) (s0.drop k)) ⟨⟨_, rfl⟩, e6, rfl⟩ (fun k σ H7 _ h => sqT ((e13.trans h.2.1) _ _ hta)) ?_ ?_
      · rintro k x σ H7 H7' hk ⟨⟨o11, rfl⟩, e7, hE3⟩ ⟨rfl, hx⟩
        replace hx : ts[k]? = some x := hx
        obtain ⟨tm, etm, rtm⟩ := rts.get hx
        rw [List.getElem?_map] at etm
        cases ett : s0[k]? with
        | none => rw [ett] at etm; cases etm
        | some t0 =>
        rw [ett] at etm
        cases etm
        rw [drop_at ett, dueTms] at hE3
        have eH7 := e13.trans e7
        walk_at "go"
        refine ⟨c, t1, r.1, dueOf wd e, t0, x, e.2.1, rfl, eH7 _ _ hc, e7 _ _ ht1, rtm.ex eH7, tB.2 t0 (List.mem_of_getElem? ett), by omega, fun z hz => by have := din z hz; omega, fun hn H8 e8 => ?_, fun y hy dx H8 e8 hx => ?_⟩
        · have hn' : dueTm r.1 (dueOf wd e) t0 = none := by
            cases h : dueTm r.1 (dueOf wd e) t0 with
            | none => rfl
            | some z => rw [h] at hn; cases hn
          rw [hn'] at hE3
          walk_at "go"
          exact ⟨⟨_, rfl⟩, e7.trans e8, hE3⟩
        · cases h : dueTm r.1 (dueOf wd e) t0 with
          | none => rw [h] at hy; cases hy
          | some z =>
            rw [h] at hy
            cases hy
            exact q0r z (by rw [hE2, hE3, h]; rfl) _ _ (eH7.trans e8) hx
      · rintro σ H7 ⟨⟨o11, rfl⟩, e7, hE3⟩
        rw [lts, List.drop_length, dueTms] at hE3
        rw [hE3] at hE2
        exact ⟨⟨_, _, rfl⟩, e7, hE2⟩
    · rintro σ H6 ⟨⟨o10, o11, rfl⟩, e6, hE2⟩
      rw [lss, List.drop_length, dueSms] at hE2
      rw [hE2] at hE
      exact ⟨⟨_, _, _, _, _, _, rfl⟩, e6, hE⟩
  · rintro σ H4 ⟨⟨o6, o7, o8, o9, o10, o11, rfl⟩, e4, hE⟩
    rw [List.drop_eq_nil_of_le (by rw [List.length_zip]; omega), dueRls] at hE
    walk_at "go"
    exact q1 hE _ (e13.trans e4)
theorem vi_read_sum_0 : Vis (defScope s_read_sum) "text" := by first | exact Or.inl (by decide +kernel) | exact Or.inr (Or.inl (by decide +kernel)) | exact Or.inr (Or.inr (by decide +kernel))
theorem vi_read_sum_1 : Vis (defScope s_read_sum) "head" := by first | exact Or.inl (by decide +kernel) | exact Or.inr (Or.inl (by decide +kernel)) | exact Or.inr (Or.inr (by decide +kernel))
theorem vi_read_sum_3 : Vis (defScope s_read_sum) "row" := by first | exact Or.inl (by decide +kernel) | exact Or.inr (Or.inl (by decide +kernel)) | exact Or.inr (Or.inr (by decide +kernel))
theorem vi_read_sum_4 : Vis (defScope s_read_sum) "told" := by first | exact Or.inl (by decide +kernel) | exact Or.inr (Or.inl (by decide +kernel)) | exact Or.inr (Or.inr (by decide +kernel))
theorem lo_read_sum_4 : Loc (defScope s_read_sum) "told" := by first | exact Or.inl (by decide +kernel) | exact Or.inr (by decide +kernel)
theorem ok_read_sum (T : Txt K mg) : FnOk P w K mg base (L2.CX P w) 6 T.a_read_sum T.d_read_sum ["text", "head", "many", "row"] spReadSm := by
  refine T.F_read_sum.okX sc_read_sum (fun vs H Q E h => ?_) (fun cdv A outer s H vs Q E hr h => ?_)
  · obtain ⟨_, _, _, _, _, rfl, _⟩ := h
    rfl
  obtain ⟨z, head, many, xr, s0, rfl, hz, hh, hm, hst, hrd, q⟩ := h
  refine ⟨_, (pss_cons (ps_expr (pe_callD (ok_need_readertexts T) (hr.mono (by decide)) rfl T.m_need_readertexts T.F_need_readertexts.kp T.b_need_readertexts .nil (fun σ => passAt (takes_of rfl rfl rfl rfl) σ) (pa_cons (pe_m1 PySem.F.slot_str_startswith PySem.F.type_str_startswith mt_startswith (uv 0 (hv := vi_read_sum_0)) (uv 1 (hv := vi_read_sum_1))) (pa_cons (uv 3 (hv := vi_read_sum_3)) pa_nil))))
      (pss_cons (ps_set (i := 4) sc_read_sum.nd rfl lo_read_sum_4 (pe_slice (show SlR _ (uSl K) from us_sl) (uv 0 (hv := vi_read_sum_0)) (po_some (pe_callB (show CallR _ (.builtin "len") (uLen K) from uk_len) rfl T.z_len boot_len (pa_cons (uv 1 (hv := vi_read_sum_1)) pa_nil))) po_none))
      (pss_cons (ps_if (pt_cmpR op_eq (uv 4 (hv := vi_read_sum_4)) pe_str (nomark _)) (pss_one (ps_ret (pe_tup pa_nil))) pss_nil)
      (pss_one (ps_ret (pe_callTy (show CallR _ (.type "tuple") (uTup K) from uk_tup) rfl T.z_tuple boot_tuple (pa_cons (pe_lc (own := [("part", 5)]) (g := gName 5) rfl sc_read_sum.nd (show PI _ _ _ (uSeq K _) from (ui_seq (pe_split (uv 4 (hv := vi_read_sum_4)) pe_str))) (blkOk_by (own := [("part", 5)]) (N := N_read_sum) (sc := defScope s_read_sum) (by decide +kernel)) (fun _ _ _ _ _ => (pg_name (i := 5) sc_read_sum.nd rfl (by first | exact Or.inl rfl | exact Or.inr rfl))) (fun _ _ _ _ _ => pts_nil) (fun _ _ _ _ _ => (pe_callD (ok_read_term T) (hr.mono (by decide)) rfl T.m_read_term T.F_read_term.kp T.b_read_term .nil (fun _ => passAt0) (pa_cons (uv 5) (pa_cons (uv 2) (pa_cons (uv 3) pa_nil)))))) pa_nil))))))), ?_⟩
  have hz2 : z.length ≤ 1000000 := Nat.le_trans hz (by decide)
  have hh2 : head.length ≤ 1000000 := Nat.le_trans hh (by decide)
  walk_at "go"
  (try refine g_m1 ?_)
  walk_at "go"
  refine ⟨z, head, rfl, rfl, ?_⟩
  rw [hst]
  walk_at "go"
  refine ⟨true, _, rfl, fun _ => ?_, fun y => (nomatch y)⟩
  walk_at "go"
  refine g_lenStr hh2 ?_
  walk_at "go"
  refine g_slS hz2 ?_
  have lt := cutS_len z (some ((head.length : Nat) : Int)) none
  revert hrd lt
  generalize cutS z (some ((head.length : Nat) : Int)) none = told
  intro hrd lt
  walk_at "go"
  rcases hrd with ⟨rfl, rfl⟩ | ⟨hne, hrd, hpl, hpn⟩
  · rw [decide_eq_true rfl]
    walk_at "go"
    refine g_new fun t ht => ?_
    exact q _ _ (Ex.new ht) (Rep.tupO upd_same (by simp only [List.map, Reps]))
  · rw [decide_eq_false (fun e => hne (by injection e))]
    walk_at "go"
    refine g_seqLs ?_
    (try refine g_m1 ?_)
    walk_at "go"
    refine ⟨told, " + ", rfl, rfl, by decide, Nat.le_trans (by omega : told.length + 2 ≤ 1000000) (by decide), fun PL hPL => ?_⟩
    revert hrd hpl hpn
    generalize Txt.split told " + " = ps
    intro hrd hpl hpn
    have k1 := Ex.new (o := .lst (ps.map V.str)) hPL
    have a1 := @upd_same H PL (.lst (ps.map V.str))
    have lps := congrArg List.length hrd
    rw [List.length_map, List.length_map] at lps
    refine ⟨_, rfl, ⟨_, sqL a1⟩, fun D hD => ?_⟩
    refine lc_mapE walk_list (fun j H8 v => ∃ t, s0[j]? = some t ∧ Rep H8 (tmD t) v) (by rw [List.length_map]; omega) hD (fun _ _ _ _ t r => r.elim fun x y => ⟨x, y.1, y.2.tk t (tm_hard _)⟩) (fun _ e => sqL (e _ _ a1)) ?_ ?_
    · rintro j x H8 H9 P N hj e8 ⟨rfl, hx⟩ k
      rw [List.length_map] at hj
      rw [List.getElem?_map, List.getElem?_eq_getElem hj] at hx
      cases hx
      have es := List.getElem?_eq_getElem (l := s0) (i := j) (by omega)
      have er : readTm many ps[j] = some s0[j] := by
        have z := congrArg (fun l => l[j]?) hrd
        simp only [List.getElem?_map, List.getElem?_eq_getElem hj, es] at z
        exact Option.some.inj z
      walk_at "go"
      refine ⟨rfl, ?_⟩
      walk_at "go"
      refine ⟨ps[j], many, xr, s0[j], rfl, hpl _ (List.getElem_mem hj), hm, er, fun v H10 e10 rv => ?_⟩
      exact k _ _ e10 ⟨_, es, rv⟩
    intro H2 acc e2 hacc hla hr2
    rw [List.length_map] at hla
    walk_at "go"
    refine g_tupOf hacc fun t ht => ?_
    refine q _ _ (k1.trans (e2.trans (Ex.new ht))) (Rep.tupO upd_same ?_)
    exact (reps_at (f := tmD) (by omega) hr2).ex (Ex.new ht)
theorem vi_read_reader_0 : Vis (defScope s_read_reader) "wood" := by first | exact Or.inl (by decide +kernel) | exact Or.inr (Or.inl (by decide +kernel)) | exact Or.inr (Or.inr (by decide +kernel))
theorem vi_read_reader_1 : Vis (defScope s_read_reader) "text" := by first | exact Or.inl (by decide +kernel) | exact Or.inr (Or.inl (by decide +kernel)) | exact Or.inr (Or.inr (by decide +kernel))
theorem vi_read_reader_2 : Vis (defScope s_read_reader) "rows" := by first | exact Or.inl (by decide +kernel) | exact Or.inr (Or.inl (by decide +kernel)) | exact Or.inr (Or.inr (by decide +kernel))
theorem vi_read_reader_3 : Vis (defScope s_read_reader) "parts" := by first | exact Or.inl (by decide +kernel) | exact Or.inr (Or.inl (by decide +kernel)) | exact Or.inr (Or.inr (by decide +kernel))
theorem vi_read_reader_4 : Vis (defScope s_read_reader) "counts" := by first | exact Or.inl (by decide +kernel) | exact Or.inr (Or.inl (by decide +kernel)) | exact Or.inr (Or.inr (by decide +kernel))
theorem vi_read_reader_5 : Vis (defScope s_read_reader) "table" := by first | exact Or.inl (by decide +kernel) | exact Or.inr (Or.inl (by decide +kernel)) | exact Or.inr (Or.inr (by decide +kernel))
theorem vi_read_reader_6 : Vis (defScope s_read_reader) "rules" := by first | exact Or.inl (by decide +kernel) | exact Or.inr (Or.inl (by decide +kernel)) | exact Or.inr (Or.inr (by decide +kernel))
theorem vi_read_reader_7 : Vis (defScope s_read_reader) "row" := by first | exact Or.inl (by decide +kernel) | exact Or.inr (Or.inl (by decide +kernel)) | exact Or.inr (Or.inr (by decide +kernel))
theorem vi_read_reader_8 : Vis (defScope s_read_reader) "maker" := by first | exact Or.inl (by decide +kernel) | exact Or.inr (Or.inl (by decide +kernel)) | exact Or.inr (Or.inr (by decide +kernel))
theorem vi_read_reader_9 : Vis (defScope s_read_reader) "sums" := by first | exact Or.inl (by decide +kernel) | exact Or.inr (Or.inl (by decide +kernel)) | exact Or.inr (Or.inr (by decide +kernel))
theorem vi_read_reader_10 : Vis (defScope s_read_reader) "box" := by first | exact Or.inl (by decide +kernel) | exact Or.inr (Or.inl (by decide +kernel)) | exact Or.inr (Or.inr (by decide +kernel))
theorem vi_read_reader_11 : Vis (defScope s_read_reader) "reader" := by first | exact Or.inl (by decide +kernel) | exact Or.inr (Or.inl (by decide +kernel)) | exact Or.inr (Or.inr (by decide +kernel))
theorem lo_read_reader_2 : Loc (defScope s_read_reader) "rows" := by first | exact Or.inl (by decide +kernel) | exact Or.inr (by decide +kernel)
theorem lo_read_reader_3 : Loc (defScope s_read_reader) "parts" := by first | exact Or.inl (by decide +kernel) | exact Or.inr (by decide +kernel)
theorem lo_read_reader_4 : Loc (defScope s_read_reader) "counts" := by first | exact Or.inl (by decide +kernel) | exact Or.inr (by decide +kernel)
theorem lo_read_reader_5 : Loc (defScope s_read_reader) "table" := by first | exact Or.inl (by decide +kernel) | exact Or.inr (by decide +kernel)
theorem lo_read_reader_6 : Loc (defScope s_read_reader) "rules" := by first | exact Or.inl (by decide +kernel) | exact Or.inr (by decide +kernel)
theorem lo_read_reader_7 : Loc (defScope s_read_reader) "row" := by first | exact Or.inl (by decide +kernel) | exact Or.inr (by decide +kernel)
theorem lo_read_reader_8 : Loc (defScope s_read_reader) "maker" := by first | exact Or.inl (by decide +kernel) | exact Or.inr (by decide +kernel)
theorem lo_read_reader_9 : Loc (defScope s_read_reader) "sums" := by first | exact Or.inl (by decide +kernel) | exact Or.inr (by decide +kernel)
theorem lo_read_reader_10 : Loc (defScope s_read_reader) "box" := by first | exact Or.inl (by decide +kernel) | exact Or.inr (by decide +kernel)
theorem lo_read_reader_11 : Loc (defScope s_read_reader) "reader" := by first | exact Or.inl (by decide +kernel) | exact Or.inr (by decide +kernel)
theorem ok_read_reader (T : Txt K mg) : FnOk P w K mg base (L2.CX P w) 7 T.a_read_reader T.d_read_reader ["wood", "text"] spReadR := by
  refine T.F_read_reader.okX sc_read_reader (fun vs H Q E h => ?_) (fun cdv A outer s H vs Q E hr h => ?_)
  · obtain ⟨_, _, _, rfl, _⟩ := h
    rfl
  obtain ⟨wd, r, wv, rfl, rw1, ok, rok, q⟩ := h
  refine ⟨_, (pss_cons (ps_set (i := 2) sc_read_reader.nd rfl lo_read_reader_2 (pe_split (uv 1 (hv := vi_read_reader_1)) pe_str))
      (pss_cons (ps_set (i := 3) sc_read_reader.nd rfl lo_read_reader_3 (pe_split (pe_ix (show IxR _ (uIx K) from ux_seq) (uv 2 (hv := vi_read_reader_2)) pe_int (fun _ _ => rfl)) pe_str))
      (pss_cons (ps_expr (pe_callD (ok_need_readertexts T) (hr.mono (by decide)) rfl T.m_need_readertexts T.F_need_readertexts.kp T.b_need_readertexts .nil (fun σ => passAt (takes_of rfl rfl rfl rfl) σ) (pa_cons (pe_and (pe_cmpR op_eq (pe_ix (show IxR _ (uIx K) from ux_seq) (uv 3 (hv := vi_read_reader_3)) pe_int (fun _ _ => rfl)) pe_str (nomark _)) (pe_one (pe_cmpR op_eq (pe_callB (show CallR _ (.builtin "len") (uLen K) from uk_len) rfl T.z_len boot_len (pa_cons (uv 3 (hv := vi_read_reader_3)) pa_nil)) (pe_op (show OpR _ (binaryOp .Add) (uAdd K) from uo_add) pe_int (pe_callB (show CallR _ (.builtin "len") (uLen K) from uk_len) rfl T.z_len boot_len (pa_cons (uv 0 (hv := vi_read_reader_0)) pa_nil))) (nomark _)))) (pa_cons pe_int pa_nil))))
      (pss_cons (ps_set (i := 4) sc_read_reader.nd rfl lo_read_reader_4 (pe_callTy (show CallR _ (.type "tuple") (uTup K) from uk_tup) rfl T.z_tuple boot_tuple (pa_cons (pe_lc (own := [("word", 12)]) (g := gName 12) rfl sc_read_reader.nd (show PI _ _ _ (uSeq K _) from (ui_seq (pe_slice (show SlR _ (uSl K) from us_sl) (uv 3 (hv := vi_read_reader_3)) (po_some pe_int) po_none))) (blkOk_by (own := [("word", 12)]) (N := N_read_reader) (sc := defScope s_read_reader) (by decide +kernel)) (fun _ _ _ _ _ => (pg_name (i := 12) sc_read_reader.nd rfl (by first | exact Or.inl rfl | exact Or.inr rfl))) (fun _ _ _ _ _ => pts_nil) (fun _ _ _ _ _ => (pe_callD (ok_number_in T) (hr.mono (by decide)) rfl T.m_number_in T.F_number_in.kp T.b_number_in .nil (fun _ => passAt0) (pa_cons (uv 12) (pa_cons pe_int pa_nil))))) pa_nil)))
      (pss_cons (ps_set (i := 5) sc_read_reader.nd rfl lo_read_reader_5 (pe_callD (ok_maker_table T) (hr.mono (by decide)) rfl T.m_maker_table T.F_maker_table.kp T.b_maker_table .nil (fun σ => passAt (takes_of rfl rfl rfl rfl) σ) (pa_cons (uv 0 (hv := vi_read_reader_0)) pa_nil)))
      (pss_cons (ps_set (i := 6) sc_read_reader.nd rfl lo_read_reader_6 (pe_lst pa_nil))
      (pss_cons (ps_set (i := 7) sc_read_reader.nd rfl lo_read_reader_7 pe_int)
      (pss_cons (ps_for (passes_of rfl) rfl (show PI _ _ _ (uSeq K _) from (ui_seq (pe_callD (ok_makers_of T) (hr.mono (by decide)) rfl T.m_makers_of T.F_makers_of.kp T.b_makers_of .nil (fun σ => passAt (takes_of rfl rfl rfl rfl) σ) (pa_cons (uv 0 (hv := vi_read_reader_0)) pa_nil)))) (pg_name (i := 8) sc_read_reader.nd rfl lo_read_reader_8) (pss_cons (ps_set (i := 9) sc_read_reader.nd rfl lo_read_reader_9 (pe_lst pa_nil))
      (pss_cons (ps_for (passes_of rfl) rfl (pi_range1 rfl T.z_range (pa_cons (pe_ix (show IxR _ (uIx K) from ux_seq) (uv 4 (hv := vi_read_reader_4)) (pe_ix (show IxR _ (uIx K) from ux_seq) (pe_dget (hu_of hr) (uv 5 (hv := vi_read_reader_5)) (uv 8 (hv := vi_read_reader_8)) (fun _ _ => rfl)) pe_int (fun _ _ => rfl)) (fun _ _ => rfl)) pa_nil)) (pg_name (i := 10) sc_read_reader.nd rfl lo_read_reader_10) (pss_cons (ps_aug (i := 7) sc_read_reader.nd rfl lo_read_reader_7 pe_int ip_catL)
      (pss_cons (ps_expr (pe_callD (ok_need_readertexts T) (hr.mono (by decide)) rfl T.m_need_readertexts T.F_need_readertexts.kp T.b_need_readertexts .nil (fun σ => passAt (takes_of rfl rfl rfl rfl) σ) (pa_cons (pe_cmpR uo_lt (uv 7 (hv := vi_read_reader_7)) (pe_callB (show CallR _ (.builtin "len") (uLen K) from uk_len) rfl T.z_len boot_len (pa_cons (uv 2 (hv := vi_read_reader_2)) pa_nil)) (nomark _)) (pa_cons (uv 7 (hv := vi_read_reader_7)) pa_nil))))
      (pss_one (ps_expr (show PE _ _ (tBM K "list" _ _ _) from (pe_bm PySem.F.plainAttrs_list PySem.F.slot_list_append PySem.F.type_list_append mt_append (uv 9 (hv := vi_read_reader_9)) (pa_cons (pe_callD (ok_read_sum T) (hr.mono (by decide)) rfl T.m_read_sum T.F_read_sum.kp T.b_read_sum .nil (fun σ => passAt (takes_of rfl rfl rfl rfl) σ) (pa_cons (pe_ix (show IxR _ (uIx K) from ux_seq) (uv 2 (hv := vi_read_reader_2)) (uv 7 (hv := vi_read_reader_7)) (fun _ _ => rfl)) (pa_cons (pe_joinU (PJ.cons (pe_fmtU (uv 8 (hv := vi_read_reader_8))) (PJ.cons pe_str (PJ.cons (pe_fmtU (uv 10 (hv := vi_read_reader_10))) (PJ.cons pe_str PJ.nil))))) (pa_cons (pe_callB (show CallR _ (.builtin "len") (uLen K) from uk_len) rfl T.z_len boot_len (pa_cons (pe_ix (show IxR _ (uIx K) from ux_seq) (pe_dget (hu_of hr) (uv 5 (hv := vi_read_reader_5)) (uv 8 (hv := vi_read_reader_8)) (fun _ _ => rfl)) pe_int (fun _ _ => rfl)) pa_nil)) (pa_cons (uv 7 (hv := vi_read_reader_7)) pa_nil))))) pa_nil))))))))
      (pss_one (ps_expr (show PE _ _ (tBM K "list" _ _ _) from (pe_bm PySem.F.plainAttrs_list PySem.F.slot_list_append PySem.F.type_list_append mt_append (uv 6 (hv := vi_read_reader_6)) (pa_cons (pe_callTy (show CallR _ (.type "tuple") (uTup K) from uk_tup) rfl T.z_tuple boot_tuple (pa_cons (uv 9 (hv := vi_read_reader_9)) pa_nil)) pa_nil))))))))
      (pss_cons (ps_expr (pe_callD (ok_need_readertexts T) (hr.mono (by decide)) rfl T.m_need_readertexts T.F_need_readertexts.kp T.b_need_readertexts .nil (fun σ => passAt (takes_of rfl rfl rfl rfl) σ) (pa_cons (pe_cmpR op_eq (pe_op (show OpR _ (binaryOp .Add) (uAdd K) from uo_add) (uv 7 (hv := vi_read_reader_7)) pe_int) (pe_callB (show CallR _ (.builtin "len") (uLen K) from uk_len) rfl T.z_len boot_len (pa_cons (uv 2 (hv := vi_read_reader_2)) pa_nil)) (nomark _)) (pa_cons (pe_op (show OpR _ (binaryOp .Add) (uAdd K) from uo_add) (uv 7 (hv := vi_read_reader_7)) pe_int) pa_nil))))
      (pss_cons (ps_set (i := 11) sc_read_reader.nd rfl lo_read_reader_11 (pe_tup (pa_cons (uv 4 (hv := vi_read_reader_4)) (pa_cons (pe_callTy (show CallR _ (.type "tuple") (uTup K) from uk_tup) rfl T.z_tuple boot_tuple (pa_cons (uv 6 (hv := vi_read_reader_6)) pa_nil)) pa_nil))))
      (pss_cons (ps_expr (pe_callD (ok_look_reader T) (hr.mono (by decide)) rfl T.m_look_reader T.F_look_reader.kp T.b_look_reader .nil (fun σ => passAt (takes_of rfl rfl rfl rfl) σ) (pa_cons (uv 0 (hv := vi_read_reader_0)) (pa_cons (uv 11 (hv := vi_read_reader_11)) pa_nil))))
      (pss_one (ps_ret (uv 11 (hv := vi_read_reader_11))))))))))))))), ?_⟩
  have tabl := ok.many
  have kds := ok.kinds
  have lrl := rok.rules
  have lct := rok.counts
  have hz := readerT_len ok rok
  have rsp := readerT_split ok rok
  have rl := rowsTo_len ok rok (tabFrom 0 wd).length (Nat.le_refl _)
  have rr := rowsTo_row ok rok (tabFrom 0 wd).length (Nat.le_refl _)
  rw [rowsTo_all lrl] at rl rr
  have lrows : (rowsTo wd r (tabFrom 0 wd).length).length = (rowsR wd r).length := by rw [rowsTo_all lrl]
  have r0 : (rowsR wd r)[0]? = some (headT r.1) := rfl
  obtain ⟨wv0, wvx, rfl, hwv, rwv⟩ := id rw1.tupI
  have lwvx : wvx.length = wd.length := by rw [rwv.len, List.length_map]
  walk_at "go"
  (try refine g_m1 ?_)
  walk_at "go"
  refine ⟨_, "\n", rfl, rfl, by decide, Nat.le_trans (by omega : (readerT wd r).length + 2 ≤ 1000000) (by decide), fun RW hRW => ?_⟩
  rw [rsp]
  have e1 := Ex.new (o := .lst ((rowsR wd r).map V.str)) hRW
  have a1 := @upd_same H RW (.lst ((rowsR wd r).map V.str))
  revert e1 a1
  generalize upd H RW (.lst ((rowsR wd r).map V.str)) = H1
  intro e1 a1
  walk_at "go"
  (try refine g_m1 ?_)
  walk_at "go"
  refine g_ixL (i := 0) a1 (show atI ((rowsR wd r).map V.str) ((0 : Nat) : Int) = some (.str (headT r.1)) from atI_nat (by rw [List.getElem?_map, r0]; rfl)) ?_
  walk_at "go"
  have hz0 := headT_len (cs := r.1) (by omega) rok.cbits
  refine ⟨_, " ", rfl, rfl, by decide, Nat.le_trans (by omega : (headT r.1).length + 2 ≤ 1000000) (by decide), fun PL hPL => ?_⟩
  rw [headT_split]
  have k2 := Ex.new (o := .lst ((("reader" : Str) :: r.1.map numT).map V.str)) hPL
  have e2 := e1.trans k2
  have a2 := k2 _ _ a1
  have p2 := @upd_same H1 PL (.lst ((("reader" : Str) :: r.1.map numT).map V.str))
  revert e2 a2 p2
  clear k2
  generalize upd H1 PL (.lst ((("reader" : Str) :: r.1.map numT).map V.str)) = H2
  intro e2 a2 p2
  have hwv2 := e2 _ _ hwv
  walk_at "go"
  refine g_ixL (i := 0) p2 (show atI ((("reader" : Str) :: r.1.map numT).map V.str) ((0 : Nat) : Int) = some (.str "reader") from atI_nat rfl) ?_
  walk_at "go"
  rw [decide_eq_true rfl]
  walk_at "go"
  rw [decInt, decide_eq_true (by rw [List.length_map, List.length_cons, List.length_map]; omega)]
  refine ⟨true, _, rfl, fun _ => ?_, fun y => (nomatch y)⟩
  walk_at "go"
  refine g_seqLs ?_
  walk_at "go"
  refine g_slLU p2 fun CL hCL => ?_
  rw [show cutV ((("reader" : Str) :: r.1.map numT).map V.str) (some 1) none = (r.1.map numT).map V.str from cutV_tail _ _]
  have k3 := Ex.new (o := .lst ((r.1.map numT).map V.str)) hCL
  have c3 := @upd_same H2 CL (.lst ((r.1.map numT).map V.str))
  refine ⟨_, rfl, ⟨_, sqL c3⟩, fun D hD => ?_⟩
  refine lc_mapE walk_list (fun i _ v => ∃ x, r.1[i]? = some x ∧ v = .int x) (by rw [List.length_map, List.length_map]; omega) hD (fun _ _ _ _ _ r => r) (fun _ e => sqL (e _ _ c3)) ?_ ?_
  · rintro i x H3 H4 P N hi e ⟨rfl, hx⟩ k
    rw [List.getElem?_map, List.getElem?_map] at hx
    cases ex : r.1[i]? with
    | none => rw [ex] at hx; cases hx
    | some x0 =>
    rw [ex] at hx
    cases hx
    obtain ⟨c0, c4⟩ := rok.count x0 (List.mem_of_getElem? ex)
    have en := numIn_num (b := x0) c0 (by omega)
    have ln := numT_bits (rok.cbits x0 (List.mem_of_getElem? ex))
    walk_at "go"
    refine ⟨rfl, ?_⟩
    walk_at "go"
    refine ⟨_, _, rfl, by omega, fun y => (by rw [en] at y; cases y), fun n hn H5 e5 => ?_⟩
    obtain rfl : x0 = n := Option.some.inj (en.symm.trans hn)
    exact k _ _ e5 ⟨x0, ex, rfl⟩
  intro H3 acc e3 hacc hla hr2
  rw [List.length_map, List.length_map] at hla
  have ea := acc_map hla hr2
  rw [ea] at hacc
  walk_at "go"
  refine g_tupOf hacc fun C hC => ?_
  have k4 := Ex.new (o := .tup (r.1.map V.int)) hC
  have e4 := e2.trans (k3.trans (e3.trans k4))
  have a4 := k4 _ _ (e3 _ _ (k3 _ _ a2))
  have aC := @upd_same H3 C (.tup (r.1.map V.int))
  revert e4 a4 aC
  clear k4 k3 c3
  generalize upd H3 C (.tup (r.1.map V.int)) = H4
  intro e4 a4 aC
  walk_at "go"
  refine ⟨wd, _, rfl, rw1.ex e4, ok.pre, fun d kvs H5 e5 hd hT => ?_⟩
  have a5 := e5 _ _ a4
  have aC5 := e5 _ _ aC
  have e05 := e4.trans e5
  walk_at "go"
  refine g_new fun R hR => ?_
  have hRH : H R = none := e05.free hR
  have nR1 : RW ≠ R := ne_of_none a5 hR
  have nRC : C ≠ R := ne_of_none aC5 hR
  have nRd : d ≠ R := ne_of_none hd hR
  have k6 := Ex.new (o := .lst []) hR
  have a6 := k6 _ _ a5
  have aC6 := k6 _ _ aC5
  have hd6 := k6 _ _ hd
  have hT6 := hT.tk k6.tk
  have e06 := e05.trans k6
  have aR := @upd_same H5 R (.lst [])
  revert a6 aC6 hd6 hT6 e06 aR
  clear k6
  generalize upd H5 R (.lst []) = H6
  intro a6 aC6 hd6 hT6 e06 aR
  walk_at "go"
  refine g_seqLs ?_
  walk_at "go"
  refine ⟨wd, _, rfl, rw1.ex e06, Nat.le_trans ok.names (by decide), ok.row, fun ml H7 hml0 e7 hml => ?_⟩
  have nml : ml ≠ R := fun z => by rw [z, aR] at hml0; cases hml0
  have lnm : ((mkNames wd).map V.str).length = (tabFrom 0 wd).length := by rw [List.length_map, ← tab_names wd 0, List.length_map]
  refine ⟨_, rfl, ⟨_, sqL hml⟩, ?_⟩
  refine for_itC walk_list (fun i σ H8 => (∃ o8 o9 o10, σ = [some (.ref wv0), some (.str (readerT wd r)), some (.ref RW), some (.ref PL), some (.ref C), some (.ref d), some (.ref R), some (.int (((rowsTo wd r i).length - 1 : Nat) : Int)), o8, o9, o10, none, none]) ∧ But R H7 H8 ∧ ∃ us, H8 R = some (.lst us) ∧ Reps H8 ((r.2.take i).map rlD) us) ⟨⟨_, _, _, rfl⟩, But.refl _ _, [], e7 _ _ aR, by simp only [List.take_zero, List.map, Reps]⟩ (fun i σ H8 _ h => sqL (h.2.1 _ _ nml hml)) ?_ ?_
  · rintro RT BK i x σ H8 H8' hi ⟨⟨o8, o9, o10, rfl⟩, bt, us, hus, rus⟩ ⟨rfl, hx⟩
    rw [lnm] at hi
    replace hx : ((mkNames wd).map V.str)[i]? = some x := hx
    have et := List.getElem?_eq_getElem hi
    have ex := List.getElem?_eq_getElem (l := r.2) (i := i) (by omega)
    have RL := rok.rll ok et ex
    have rul := rok.rule i _ _ et ex
    have mt := List.getElem_mem hi
    have next := rowsTo_next et ex
    have rowat := fun (b : Nat) (s : Sm) (h : r.2[i][b]? = some s) => rowsR_at et ex h
    have pos := rowsTo_pos (w := wd) (r := r) i
    revert et ex RL rul mt next rowat
    generalize (tabFrom 0 wd)[i] = e
    generalize r.2[i] = rl0
    intro et ex RL rul mt next rowat
    obtain ⟨Rm, Rs⟩ := RL
    obtain ⟨lcn, rul⟩ := rul
    rw [← tab_names wd 0, List.map_map, List.getElem?_map, et] at hx
    cases hx
    obtain ⟨ek, dl, d2, din⟩ := dueOf_in ok mt
    obtain ⟨p1, t1, v1, hp1, ht1⟩ := hT6.2 e mt
    have np1 : p1 ≠ R := fun z => by rw [z, aR] at hp1; cases hp1
    have nt1 : t1 ≠ R := fun z => by rw [z, aR] at ht1; cases ht1
    have hd8 := bt _ _ nRd (e7 _ _ hd6)
    have hp8 := bt _ _ np1 (e7 _ _ hp1)
    have ht8 := bt _ _ nt1 (e7 _ _ ht1)
    have aC8 := bt _ _ nRC (e7 _ _ aC6)
    have a8 := bt _ _ nR1 (e7 _ _ a6)
    have hR9s := hus
    walk_at "go"
    refine g_new fun S hS => ?_
    have nRS : R ≠ S := ne_of_none hus hS
    have nS1 : RW ≠ S := ne_of_none a8 hS
    have nSd : d ≠ S := ne_of_none hd8 hS
    have nSp : p1 ≠ S := ne_of_none hp8 hS
    have nSt : t1 ≠ S := ne_of_none ht8 hS
    have k9 := Ex.new (o := .lst []) hS
    have hd9 := k9 _ _ hd8
    have hp9 := k9 _ _ hp8
    have ht9 := k9 _ _ ht8
    have aC9 := k9 _ _ aC8
    have a9 := k9 _ _ a8
    have hu9 := k9 _ _ hus
    have ru9 := rus.ex k9
    have aS := @upd_same H8' S (.lst [])
    revert hd9 hp9 ht9 aC9 a9 hu9 ru9 aS k9
    generalize upd H8' S (.lst []) = H9
    intro k9 hd9 hp9 ht9 aC9 a9 hu9 ru9 aS
    walk_at "go"
    refine g_dgS hd9 v1 ?_
    walk_at "go"
    refine g_ixT aC9 (cnt_at (by omega) (by omega)) ?_
    rw [← lcn]
    walk_at "go"
    refine ⟨_, rfl, by omega, by omega, ?_⟩
    rw [Int.toNat_natCast]
    refine for_itC walk_range (fun b σ H10 => (∃ o10, σ = [some (.ref wv0), some (.str (readerT wd r)), some (.ref RW), some (.ref PL), some (.ref C), some (.ref d), some (.ref R), some (.int (((rowsTo wd r i).length - 1 + b : Nat) : Int)), some (.str e.2.1), some (.ref S), o10, none, none]) ∧ But S H9 H10 ∧ ∃ ss, H10 S = some (.lst ss) ∧ Reps H10 ((rl0.take b).map smD) ss) ⟨⟨_, rfl⟩, But.refl _ _, [], aS, by simp only [List.take_zero, List.map, Reps]⟩ (fun _ _ _ _ _ => trivial) ?_ ?_
    · rintro RT BK b x σ H10 H10' hb ⟨⟨o10, rfl⟩, bt10, ss, hss, rss⟩ ⟨rfl, rfl⟩
      have eb := List.getElem?_eq_getElem hb
      have mb := List.getElem_mem hb
      have rb := rowat b _ eb
      revert eb mb rb
      generalize rl0[b] = s0
      intro eb mb rb
      obtain ⟨sl, st⟩ := Rs s0 mb
      have lrb := (List.getElem?_eq_some_iff.1 rb).1
      have rlen := rr _ (List.mem_of_getElem? rb)
      have lss : ss.length = b := by rw [rss.len, List.length_map, List.length_take]; omega
      have a10 := bt10 _ _ nS1 a9
      have hd10 := bt10 _ _ nSd hd9
      have hp10 := bt10 _ _ nSp hp9
      have ht10 := bt10 _ _ nSt ht9
      have er : (((rowsTo wd r i).length - 1 + b : Nat) : Int) + 1 = (((rowsTo wd r i).length + b : Nat) : Int) := by omega
      have er2 : (rowsTo wd r i).length + b = (rowsTo wd r i).length - 1 + (b + 1) := by omega
      have l1 := isName_len6 (ok.low _ (show e.2.1 ∈ mkNames wd by rw [← tab_names wd 0]; exact List.mem_map.2 ⟨_, mt, rfl⟩))
      have bu := small_bits (n := b) (by omega)
      have l2 := numT_bits bu
      have ez : ((fun i : Nat => V.int (0 + (i : Int))) b) = V.int ((b : Nat) : Int) := congrArg V.int (Int.zero_add _)
      rw [ez]
      walk_at "go"
      refine g_augL rfl ?_
      walk_at "go"
      refine g_iaddI ?_
      rw [er]
      walk_at "go"
      rw [decide_eq_true (by rw [List.length_map]; omega)]
      refine ⟨true, _, rfl, fun _ => ?_, fun y => (nomatch y)⟩
      walk_at "go"
      refine g_ixL (i := (((rowsTo wd r i).length + b : Nat) : Int)) a10 (atI_nat (by rw [List.getElem?_map, rb]; rfl)) ?_
      walk_at "go"
      refine g_fmtS (by omega) ?_
      refine g_jv (by rw [empty_len]; omega) ?_
      rw [empty_app]
      walk_at "go"
      refine g_jv (by show _ + 1 ≤ _; omega) ?_
      walk_at "go"
      refine g_fmtI (log_of bu (by decide) (by decide)) ?_
      refine g_jv (by rw [app_len]; show _ + 1 + _ ≤ _; omega) ?_
      walk_at "go"
      refine g_jv (by rw [app_len, app_len]; show _ + 1 + _ + 3 ≤ _; omega) ?_
      walk_at "go"
      refine g_dgS hd10 v1 ?_
      walk_at "go"
      rw [show (e.2.2.map fun s => V.int (kno wd s)).length = e.2.2.length from List.length_map _]
      refine ⟨rowT e.2.1 b s0, e.2.1 ++ " " ++ numT ((b : Nat) : Int) ++ " = ", e.2.2.length, _, s0, rfl, by omega, ?_, by omega, starts_app ?_, ?_, fun v H11 e11 rv => ?_⟩
      · rw [app_len, app_len, app_len]
        show _ + 1 + _ + 3 ≤ _
        omega
      · intro z
        have z2 := congrArg Str.length z
        rw [app_len, app_len, app_len] at z2
        replace z2 : e.2.1.length + 1 + (numT ((b : Nat) : Int)).length + 3 = 0 := z2
        omega
      · have ec := cut_app (e.2.1 ++ " " ++ numT ((b : Nat) : Int) ++ " = ") (sumT s0)
        rw [show rowT e.2.1 b s0 = (e.2.1 ++ " " ++ numT ((b : Nat) : Int) ++ " = ") ++ sumT s0 from rfl, ec]
        exact sm_read (by omega) sl (fun t ht => ((rul s0 mb).2 t ht).w ok rok mt) st
      have hss11 := e11 _ _ hss
      walk_at "go"
      refine g_app hss11 (Nat.lt_of_le_of_lt (by omega : ss.length ≤ 1000) (by decide)) ?_
      have tk := tk_put (ys := ss ++ [v]) hss11
      rw [er2]
      refine ⟨⟨_, rfl⟩, (bt10.trans (e11.but S)).upd, ss ++ [v], upd_same, ?_⟩
      rw [take_at eb]
      exact reps_app ((rss.ex e11).tk tk (hards_map sm_hard _)) (reps_one (rv.tk tk (sm_hard _)))
    · rintro σ H10 ⟨⟨o10, rfl⟩, bt10, ss, hss, rss⟩
      rw [List.take_length] at rss
      have e910 : Ex H8' H10 := Ex.of_but ((k9.but S).trans bt10) hS
      have hu10 := e910 _ _ hus
      walk_at "go"
      refine g_tupOf hss fun TS hTS => ?_
      have k11 := Ex.new (o := .tup ss) hTS
      have hu11 := k11 _ _ hu10
      have lus : us.length = i := by rw [rus.len, List.length_map, List.length_take]; omega
      walk_at "go"
      refine g_app hu11 (Nat.lt_of_le_of_lt (by omega : us.length ≤ 1000) (by decide)) ?_
      have tk := tk_put (ys := us ++ [.ref TS]) hu11
      have en : (rowsTo wd r i).length - 1 + rl0.length = (rowsTo wd r (i + 1)).length - 1 := by omega
      rw [en]
      refine ⟨⟨_, _, _, rfl⟩, (bt.trans ((e910.trans k11).but R)).upd, us ++ [.ref TS], upd_same, ?_⟩
      rw [take_at ex]
      refine reps_app ((rus.ex (e910.trans k11)).tk tk (hards_map rl_hard _)) (reps_one ?_)
      exact (show Rep _ (rlD rl0) _ from Rep.tupO (@upd_same H10 TS (.tup ss)) (rss.ex k11)).tk tk (rl_hard _)
  · rintro σ H8 ⟨⟨o8, o9, o10, rfl⟩, bt, us, hus, rus⟩
    rw [lnm, ← lrl, List.take_length] at rus
    have a8 := bt _ _ nR1 (e7 _ _ a6)
    have aC8 := bt _ _ nRC (e7 _ _ aC6)
    have pos := rowsTo_pos (w := wd) (r := r) (tabFrom 0 wd).length
    rw [lnm, lrows]
    walk_at "go"
    rw [decInt, decide_eq_true (by rw [List.length_map]; omega)]
    walk_at "go"
    refine ⟨true, _, rfl, fun _ => ?_, fun y => (nomatch y)⟩
    walk_at "go"
    refine g_tupOf hus fun TR hTR => ?_
    walk_at "go"
    refine g_new fun RD hRD => ?_
    have k9 := Ex.new (o := .tup us) hTR
    have k10 := Ex.new (o := .tup [.ref C, .ref TR]) hRD
    have rrd := Rep.rd (r := r) upd_same (k10 _ _ (k9 _ _ aC8)) (k10 _ _ (@upd_same H8 TR (.tup us))) ((rus.ex k9).ex k10)
    have eF := (((Ex.of_but (((e06.trans e7).but R).trans bt) hRH).trans k9).trans k10)
    revert rrd eF
    generalize upd (upd H8 TR (.tup us)) RD (.tup [.ref C, .ref TR]) = H9
    intro rrd eF
    walk_at "go"
    refine ⟨wd, r, _, _, rfl, rw1.ex eF, ok, rrd, (rok.n0 ok).bnd (by decide), fun _ H10 e10 => ?_, fun x hx => (by rw [dueRd_ok rok] at hx; cases hx)⟩
    walk_at "go"
    exact q _ _ (eF.trans e10) (rrd.ex e10)
theorem vi_law_right_0 : Vis (defScope s_law_right) "_law_wood_here" := by first | exact Or.inl (by decide +kernel) | exact Or.inr (Or.inl (by decide +kernel)) | exact Or.inr (Or.inr (by decide +kernel))
theorem vi_law_right_1 : Vis (defScope s_law_right) "_law_reader_here" := by first | exact Or.inl (by decide +kernel) | exact Or.inr (Or.inl (by decide +kernel)) | exact Or.inr (Or.inr (by decide +kernel))
theorem vi_law_right_2 : Vis (defScope s_law_right) "_law_text" := by first | exact Or.inl (by decide +kernel) | exact Or.inr (Or.inl (by decide +kernel)) | exact Or.inr (Or.inr (by decide +kernel))
theorem vi_law_right_3 : Vis (defScope s_law_right) "_law_found" := by first | exact Or.inl (by decide +kernel) | exact Or.inr (Or.inl (by decide +kernel)) | exact Or.inr (Or.inr (by decide +kernel))
theorem lo_law_right_2 : Loc (defScope s_law_right) "_law_text" := by first | exact Or.inl (by decide +kernel) | exact Or.inr (by decide +kernel)
theorem lo_law_right_3 : Loc (defScope s_law_right) "_law_found" := by first | exact Or.inl (by decide +kernel) | exact Or.inr (by decide +kernel)
theorem ok_law_right (T : Txt K mg) : FnOk P w K mg base (L2.CX P w) 8 T.a_law_right T.d_law_right ["_law_wood_here", "_law_reader_here"] spRight16 := by
  refine T.F_law_right.okX sc_law_right (fun vs H Q E h => ?_) (fun cdv A outer s H vs Q E hr h => ?_)
  · obtain ⟨_, _, _, _, rfl, _⟩ := h
    rfl
  obtain ⟨wd, r, wv, rv, rfl, rw1, ok, rr, rok, q⟩ := h
  refine ⟨_, (pss_cons (ps_set (i := 2) sc_law_right.nd rfl lo_law_right_2 (pe_joinK K pe_str (pe_callD (ok_law_reader_rows T) (hr.mono (by decide)) rfl T.m_law_reader_rows T.F_law_reader_rows.kp T.b_law_reader_rows .nil (fun σ => passAt (takes_of rfl rfl rfl rfl) σ) (pa_cons (uv 0 (hv := vi_law_right_0)) (pa_cons (uv 1 (hv := vi_law_right_1)) pa_nil)))))
      (pss_cons (ps_set (i := 3) sc_law_right.nd rfl lo_law_right_3 (pe_callD (ok_show_reader T) (hr.mono (by decide)) rfl T.m_show_reader T.F_show_reader.kp T.b_show_reader .nil (fun σ => passAt (takes_of rfl rfl rfl rfl) σ) (pa_cons (uv 0 (hv := vi_law_right_0)) (pa_cons (uv 1 (hv := vi_law_right_1)) pa_nil))))
      (pss_one (ps_ret (pe_and (pe_callB (show CallR _ (.builtin "isinstance") (uIs K) from uk_is) rfl T.z_isinstance boot_isinstance (pa_cons (uv 3 (hv := vi_law_right_3)) (pa_cons (pe_bltn (v := .ty "str") rfl T.z_str boot_str rfl) pa_nil))) (pe_and (pe_cmpR op_eq (uv 3 (hv := vi_law_right_3)) (uv 2 (hv := vi_law_right_2)) (nomark _)) (pe_one (pe_callD (ok_law_alike T) (hr.mono (by decide)) rfl T.m_law_alike T.F_law_alike.kp T.b_law_alike .nil (fun σ => passAt (takes_of rfl rfl rfl rfl) σ) (pa_cons (pe_callD (ok_read_reader T) (hr.mono (by decide)) rfl T.m_read_reader T.F_read_reader.kp T.b_read_reader .nil (fun σ => passAt (takes_of rfl rfl rfl rfl) σ) (pa_cons (uv 0 (hv := vi_law_right_0)) (pa_cons (uv 2 (hv := vi_law_right_2)) pa_nil))) (pa_cons (uv 1 (hv := vi_law_right_1)) pa_nil)))))))))), ?_⟩
  have tabl := ok.many
  have rl := rowsTo_len ok rok (tabFrom 0 wd).length (Nat.le_refl _)
  have rrow := rowsTo_row ok rok (tabFrom 0 wd).length (Nat.le_refl _)
  rw [rowsTo_all rok.rules] at rl rrow
  walk_at "go"
  (try refine g_m1 ?_)
  walk_at "go"
  refine ⟨wd, r, _, _, rfl, rw1, ok, rr, rok, fun L H1 hL e1 hL1 => ?_⟩
  refine ⟨"\n", L, rowsR wd r, rfl, rfl, .inl (sqL hL1), joinC (b := 5100) rrow (by omega) (by decide) (by decide), ?_⟩
  rw [show Txt.join "\n" (rowsR wd r) = readerT wd r from rfl]
  walk_at "go"
  refine ⟨wd, r, _, _, rfl, rw1.ex e1, ok, rr.ex e1, rok, fun H2 e2 => ?_⟩
  walk_at "go"
  refine g_is (b := true) (T := "str") (.str _) (by decide +kernel) ?_
  walk_at "go"
  rw [decide_eq_true rfl]
  walk_at "go"
  have e12 := e1.trans e2
  refine ⟨wd, r, _, rfl, rw1.ex e12, ok, rok, fun v H3 e3 rv3 => ?_⟩
  walk_at "go"
  refine ⟨rdD r, v, _, rfl, rv3, rr.ex (e12.trans e3), rd_hard r, rd_size ok rok, fun H4 e4 => ?_⟩
  exact q _ (e12.trans (e3.trans e4))
theorem vi_law_0 : Vis (defScope s_law) "_law_script" := by first | exact Or.inl (by decide +kernel) | exact Or.inr (Or.inl (by decide +kernel)) | exact Or.inr (Or.inr (by decide +kernel))
theorem vi_law_1 : Vis (defScope s_law) "_law_some" := by first | exact Or.inl (by decide +kernel) | exact Or.inr (Or.inl (by decide +kernel)) | exact Or.inr (Or.inr (by decide +kernel))
theorem vi_law_2 : Vis (defScope s_law) "_law_k" := by first | exact Or.inl (by decide +kernel) | exact Or.inr (Or.inl (by decide +kernel)) | exact Or.inr (Or.inr (by decide +kernel))
theorem vi_law_3 : Vis (defScope s_law) "_law_box_here" := by first | exact Or.inl (by decide +kernel) | exact Or.inr (Or.inl (by decide +kernel)) | exact Or.inr (Or.inr (by decide +kernel))
theorem vi_law_4 : Vis (defScope s_law) "_law_wood_here" := by first | exact Or.inl (by decide +kernel) | exact Or.inr (Or.inl (by decide +kernel)) | exact Or.inr (Or.inr (by decide +kernel))
theorem lo_law_1 : Loc (defScope s_law) "_law_some" := by first | exact Or.inl (by decide +kernel) | exact Or.inr (by decide +kernel)
theorem lo_law_2 : Loc (defScope s_law) "_law_k" := by first | exact Or.inl (by decide +kernel) | exact Or.inr (by decide +kernel)
theorem lo_law_3 : Loc (defScope s_law) "_law_box_here" := by first | exact Or.inl (by decide +kernel) | exact Or.inr (by decide +kernel)
theorem lo_law_4 : Loc (defScope s_law) "_law_wood_here" := by first | exact Or.inl (by decide +kernel) | exact Or.inr (by decide +kernel)
theorem ok_law (T : Txt K mg) : FnOk P w K mg base (L2.CX P w) 9 T.a_law T.d_law ["_law_script"] (spLaw K) := by
  refine T.F_law.okX sc_law (fun vs H Q E h => ?_) (fun cdv A outer s H vs Q E hr h => ?_)
  · obtain ⟨_, _, rfl, _⟩ := h
    rfl
  obtain ⟨scr, ns, rfl, hS, hl, q⟩ := h
  refine ⟨_, (pss_cons (ps_set (i := 1) sc_law.nd rfl lo_law_1 (pe_lst pa_nil))
      (pss_cons (ps_for (passes_of rfl) rfl (pi_range1 rfl T.z_range (pa_cons (pe_callB (uk_max2 rfl) rfl T.z_max boot_max (pa_cons pe_int (pa_cons (pe_callB (uk_min2 rfl) rfl T.z_min boot_min (pa_cons pe_int (pa_cons (pe_callB uk_len rfl T.z_len boot_len (pa_cons (uv 0 (hv := vi_law_0)) pa_nil)) pa_nil))) pa_nil))) pa_nil)) (pg_name (i := 2) sc_law.nd rfl lo_law_2) (pss_cons (ps_set (i := 3) sc_law.nd rfl lo_law_3 (pe_callD (ok_law_box T) (hr.mono (by decide)) rfl T.m_law_box T.F_law_box.kp T.b_law_box .nil (fun σ => passAt (takes_of rfl rfl rfl rfl) σ) (pa_cons (uv 0 (hv := vi_law_0)) (pa_cons (uv 2 (hv := vi_law_2)) pa_nil))))
      (pss_cons (ps_set (i := 4) sc_law.nd rfl lo_law_4 (pe_callD (ok_law_wood T) (hr.mono (by decide)) rfl T.m_law_wood T.F_law_wood.kp T.b_law_wood .nil (fun σ => passAt (takes_of rfl rfl rfl rfl) σ) (pa_cons (uv 3 (hv := vi_law_3)) (pa_cons pe_int pa_nil))))
      (pss_one (ps_expr (pe_bm PySem.F.plainAttrs_list PySem.F.slot_list_append PySem.F.type_list_append mt_append (uv 1 (hv := vi_law_1)) (pa_cons (pe_tup (pa_cons (uv 4 (hv := vi_law_4)) (pa_cons (pe_callD (ok_law_reader T) (hr.mono (by decide)) rfl T.m_law_reader T.F_law_reader.kp T.b_law_reader .nil (fun σ => passAt (takes_of rfl rfl rfl rfl) σ) (pa_cons (uv 3 (hv := vi_law_3)) (pa_cons (uv 4 (hv := vi_law_4)) pa_nil))) pa_nil))) pa_nil)))))))
      (pss_one (ps_ret (pe_callB (cr_all rfl) rfl T.z_all boot_all (pa_cons (pe_lc (own := [("_law_wood_here", 4), ("_law_reader_here", 5)]) (g := gTup K 2 (gCons (gName 4) (gCons (gName 5) gNil))) rfl sc_law.nd (ui_seq (pe_op uo_add (uv 1 (hv := vi_law_1)) (pe_slice us_sl (uv 1 (hv := vi_law_1)) po_none (po_some pe_int)))) (blkOk_by (own := [("_law_wood_here", 4), ("_law_reader_here", 5)]) (N := N_law) (sc := defScope s_law) (by decide +kernel)) (fun _ _ _ _ _ => (pg_tup rfl (pgs_cons (pg_name (i := 4) sc_law.nd rfl (by first | exact Or.inl rfl | exact Or.inr rfl)) (pgs_cons (pg_name (i := 5) sc_law.nd rfl (by first | exact Or.inl rfl | exact Or.inr rfl)) pgs_nil)))) (fun _ _ _ _ _ => pts_nil) (fun _ _ _ _ _ => (pe_callD (ok_law_right T) (hr.mono (by decide)) rfl T.m_law_right T.F_law_right.kp T.b_law_right .nil (fun _ => passAt0) (pa_cons (uv 4) (pa_cons (uv 5) pa_nil))))) pa_nil)))))), ?_⟩
  walk_at "go"
  refine g_new fun AL hAL => ?_
  have e0 := Ex.new (o := .lst []) hAL
  have y0 := @upd_same H AL (.lst [])
  revert e0 y0
  generalize upd H AL (.lst []) = H0
  intro e0 y0
  walk_at "go"
  refine g_lenSq (e0.seqL hS) ?_
  walk_at "go"
  have hln : (ns.map V.int).length ≤ 63 := by rw [List.length_map]; exact hl
  have hn : ∃ n : Nat, max 3 (min 8 (((ns.map V.int).length : Nat) : Int)) = (n : Int) ∧ 3 ≤ n ∧ n ≤ 8 := ⟨(max 3 (min 8 (((ns.map V.int).length : Nat) : Int))).toNat, by omega, by omega, by omega⟩
  obtain ⟨n, en, n2, n6⟩ := hn
  rw [en]
  refine ⟨_, rfl, by omega, by omega, ?_⟩
  rw [Int.toNat_natCast]
  refine for_it walk_range (fun i σ H1 => (∃ o2 o3 o4 o5, σ = [some (.ref scr), some (.ref AL), o2, o3, o4, o5]) ∧ Ex H H1 ∧ ∃ av, H1 AL = some (.lst av) ∧ av.length = i ∧ ∀ x ∈ av, AskedR H1 x) ⟨⟨_, _, _, _, rfl⟩, e0, [], y0, rfl, fun x z => (nomatch z)⟩ (fun _ _ _ _ _ => trivial) ?_ ?_
  · rintro i x σ H1 H1' hi ⟨⟨o2, o3, o4, o5, rfl⟩, e1, av, hav, lav, hask⟩ ⟨rfl, rfl⟩
    walk_at "go"
    refine ⟨scr, ns, i, by show [V.ref scr, V.int (0 + (i : Int))] ++ [] = _; rw [Int.zero_add]; rfl, e1.seqL hS, hl, fun p H2 hp e2 hb2 => ?_⟩
    walk_at "go"
    refine ⟨p, rfl, hb2, fun wd v H3 ok rv b3 hb3 => ?_⟩
    have nAp : AL ≠ p := fun z => by rw [z, hp] at hav; cases hav
    have hav3 := b3 _ _ nAp (e2 _ _ hav)
    walk_at "go"
    refine ⟨p, wd, v, rfl, hb3, rv, ok, fun rd rdv H4 rok rrd b4 hb4 => ?_⟩
    have e4 : Ex H1' H4 := Ex.of_but ((e2.but p).trans (b3.trans b4)) hp
    have rv4 := rv.tk (hb3.tk b4) (wood_hard wd)
    walk_at "go"
    refine g_new fun tq htq => ?_
    have e5 := e4.trans (Ex.new (o := .tup [v, rdv]) htq)
    have e45 := Ex.new (o := .tup [v, rdv]) htq
    have new : AskedR (upd H4 tq (.tup [v, rdv])) (.ref tq) := ⟨tq, wd, rd, v, rdv, rfl, upd_same, rv4.ex e45, ok, rrd.ex e45, rok⟩
    revert e5 new
    generalize upd H4 tq (.tup [v, rdv]) = H5
    intro e5 new
    have hav5 := e5 _ _ hav
    walk_at "go"
    refine g_app hav5 (Nat.lt_of_le_of_lt (by omega : av.length ≤ 1000) (by decide)) ?_
    have tkp := tk_put (ys := av ++ [.ref tq]) hav5
    walk_at "go"
    exact ⟨⟨_, _, _, _, rfl⟩, (e1.trans e5).at_new hAL, _, upd_same, by rw [List.length_append, lav]; rfl, fun x hx => by
      rcases List.mem_append.1 hx with hx | hx
      · exact ((hask x hx).tk e5.tk).tk tkp
      · rw [List.mem_singleton.1 hx]
        exact new.tk tkp⟩
  · rintro σ H1 ⟨⟨o2, o3, o4, o5, rfl⟩, e1, av, hav, lav, hask⟩
    walk_at "go"
    refine g_seqLs ?_
    walk_at "go"
    refine g_slLU hav fun S hS2 => ?_
    have e2 := Ex.new (o := .lst (cutV av none (some 1))) hS2
    have hav2 := e2 _ _ hav
    have hS3 := @upd_same H1 S (.lst (cutV av none (some 1)))
    revert e2 hav2 hS3
    generalize upd H1 S (.lst (cutV av none (some 1))) = H2
    intro e2 hav2 hS3
    have lcut : (cutV av none (some 1)).length ≤ 1 := by
      have := (cutV_len (xs := av) (i := 1) (by decide)).1
      rw [this]
      show min 1 _ ≤ 1
      omega
    walk_at "go"
    refine g_catL hav2 hS3 (by omega) fun L hL => ?_
    have e3 := e2.trans (Ex.new (o := .lst (av ++ cutV av none (some 1))) hL)
    have hL3 := @upd_same H2 L (.lst (av ++ cutV av none (some 1)))
    revert e3 hL3
    generalize upd H2 L (.lst (av ++ cutV av none (some 1))) = H3
    intro e3 hL3
    have lzs : (av ++ cutV av none (some 1)).length ≤ 10 := by rw [List.length_append]; omega
    have hask3 : ∀ x ∈ av ++ cutV av none (some 1), AskedR H3 x := fun x hx => by
      rcases List.mem_append.1 hx with hx | hx
      · exact (hask x hx).tk e3.tk
      · exact (hask x (cutV_mem hx)).tk e3.tk
    revert hL3 lzs hask3
    generalize av ++ cutV av none (some 1) = zs
    intro hL3 lzs hask3
    refine ⟨_, rfl, ⟨_, sqL hL3⟩, fun D hD => ?_⟩
    refine lc_mapE walk_list (fun i _ v => ∃ x, zs[i]? = some x ∧ v = .bl true) (by omega) hD (fun _ _ _ _ _ r => r) (fun _ e => sqL (e _ _ hL3)) ?_ ?_
    · rintro i x Hc Hc' P N hi e9 ⟨rfl, hx⟩ k
      obtain ⟨a, wd, rd, wv, rdv, rfl, ha, rw4, ok, rr, rok⟩ := (hask3 x (List.mem_of_getElem? hx)).tk e9.tk
      refine g_tup2 ha ?_
      walk_at "go"
      refine ⟨rfl, ?_⟩
      walk_at "go"
      refine ⟨wd, rd, wv, rdv, rfl, rw4, ok, rr, rok, fun H5 k5 => ?_⟩
      exact k _ _ k5 ⟨_, hx, rfl⟩
    intro H4 acc e4 hacc hla hr2
    have ea := acc_map (f := fun _ => V.bl true) hla hr2
    have eb : acc = (zs.map fun _ => true).map V.bl := by rw [ea, List.map_map]; rfl
    rw [eb] at hacc
    walk_at "go"
    refine g_all hacc ?_
    have ec : (zs.map fun _ => true).all id = true := by
      rw [List.all_map, List.all_eq_true]
      intro x _
      rfl
    rw [ec]
    exact q _
end
theorem mk_txt {K : PySem.W.Frag} {h : Heap} {mg : Str → Option Value} (X : K.In h) (G : h.Ns mainGlobals mg)
    {C_BoughError C_NoText fI_NoText C_NoReader fI_NoReader C_Nought fI_Nought f_common_part f_fraction_of dt_fraction_of f_show_fraction f_is_figures f_read_fraction f_kinds_by_name f_makers_of f_maker_table f_need_readers dt_need_readers f_is_fraction f_look_term f_look_reader f_term_text f_show_reader f_need_readertexts f_number_in f_read_term f_read_sum f_read_reader f_law_box f_law_take f_law_names f_law_wood f_law_makers f_law_shared f_law_fraction f_law_reader f_law_text_of f_law_reader_rows f_law_alike f_law_right f_law : Addr}
    {ocI_NoText kVI_NoText dcI_NoText pmI_NoText cdI_NoText ctI_NoText ocI_NoReader kVI_NoReader dcI_NoReader pmI_NoReader cdI_NoReader ctI_NoReader ocI_Nought kVI_Nought dcI_Nought pmI_Nought cdI_Nought ctI_Nought oc_common_part kV_common_part dc_common_part pm_common_part cd_common_part ct_common_part oc_fraction_of kV_fraction_of dc_fraction_of pm_fraction_of cd_fraction_of ct_fraction_of do_fraction_of oc_show_fraction kV_show_fraction dc_show_fraction pm_show_fraction cd_show_fraction ct_show_fraction oc_is_figures kV_is_figures dc_is_figures pm_is_figures cd_is_figures ct_is_figures oc_read_fraction kV_read_fraction dc_read_fraction pm_read_fraction cd_read_fraction ct_read_fraction oc_kinds_by_name kV_kinds_by_name dc_kinds_by_name pm_kinds_by_name cd_kinds_by_name ct_kinds_by_name oc_makers_of kV_makers_of dc_makers_of pm_makers_of cd_makers_of ct_makers_of oc_maker_table kV_maker_table dc_maker_table pm_maker_table cd_maker_table ct_maker_table oc_need_readers kV_need_readers dc_need_readers pm_need_readers cd_need_readers ct_need_readers do_need_readers oc_is_fraction kV_is_fraction dc_is_fraction pm_is_fraction cd_is_fraction ct_is_fraction oc_look_term kV_look_term dc_look_term pm_look_term cd_look_term ct_look_term oc_look_reader kV_look_reader dc_look_reader pm_look_reader cd_look_reader ct_look_reader oc_term_text kV_term_text dc_term_text pm_term_text cd_term_text ct_term_text oc_show_reader kV_show_reader dc_show_reader pm_show_reader cd_show_reader ct_show_reader oc_need_readertexts kV_need_readertexts dc_need_readertexts pm_need_readertexts cd_need_readertexts ct_need_readertexts oc_number_in kV_number_in dc_number_in pm_number_in cd_number_in ct_number_in oc_read_term kV_read_term dc_read_term pm_read_term cd_read_term ct_read_term oc_read_sum kV_read_sum dc_read_sum pm_read_sum cd_read_sum ct_read_sum oc_read_reader kV_read_reader dc_read_reader pm_read_reader cd_read_reader ct_read_reader oc_law_box kV_law_box dc_law_box pm_law_box cd_law_box ct_law_box oc_law_take kV_law_take dc_law_take pm_law_take cd_law_take ct_law_take oc_law_names kV_law_names dc_law_names pm_law_names cd_law_names ct_law_names oc_law_wood kV_law_wood dc_law_wood pm_law_wood cd_law_wood ct_law_wood oc_law_makers kV_law_makers dc_law_makers pm_law_makers cd_law_makers ct_law_makers oc_law_shared kV_law_shared dc_law_shared pm_law_shared cd_law_shared ct_law_shared oc_law_fraction kV_law_fraction dc_law_fraction pm_law_fraction cd_law_fraction ct_law_fraction oc_law_reader kV_law_reader dc_law_reader pm_law_reader cd_law_reader ct_law_reader oc_law_text_of kV_law_text_of dc_law_text_of pm_law_text_of cd_law_text_of ct_law_text_of oc_law_reader_rows kV_law_reader_rows dc_law_reader_rows pm_law_reader_rows cd_law_reader_rows ct_law_reader_rows oc_law_alike kV_law_alike dc_law_alike pm_law_alike cd_law_alike ct_law_alike oc_law_right kV_law_right dc_law_right pm_law_right cd_law_right ct_law_right oc_law kV_law dc_law pm_law cd_law ct_law : Value}
    {odI_NoText anI_NoText odI_NoReader anI_NoReader odI_Nought anI_Nought od_common_part an_common_part od_fraction_of an_fraction_of dd_fraction_of od_show_fraction an_show_fraction od_is_figures an_is_figures od_read_fraction an_read_fraction od_kinds_by_name an_kinds_by_name od_makers_of an_makers_of od_maker_table an_maker_table od_need_readers an_need_readers dd_need_readers od_is_fraction an_is_fraction od_look_term an_look_term od_look_reader an_look_reader od_term_text an_term_text od_show_reader an_show_reader od_need_readertexts an_need_readertexts od_number_in an_number_in od_read_term an_read_term od_read_sum an_read_sum od_read_reader an_read_reader od_law_box an_law_box od_law_take an_law_take od_law_names an_law_names od_law_wood an_law_wood od_law_makers an_law_makers od_law_shared an_law_shared od_law_fraction an_law_fraction od_law_reader an_law_reader od_law_text_of an_law_text_of od_law_reader_rows an_law_reader_rows od_law_alike an_law_alike od_law_right an_law_right od_law an_law : Option Addr}
    {slI_NoText slI_NoReader slI_Nought sl_common_part sl_fraction_of ds_fraction_of sl_show_fraction sl_is_figures sl_read_fraction sl_kinds_by_name sl_makers_of sl_maker_table sl_need_readers ds_need_readers sl_is_fraction sl_look_term sl_look_reader sl_term_text sl_show_reader sl_need_readertexts sl_number_in sl_read_term sl_read_sum sl_read_reader sl_law_box sl_law_take sl_law_names sl_law_wood sl_law_makers sl_law_shared sl_law_fraction sl_law_reader sl_law_text_of sl_law_reader_rows sl_law_alike sl_law_right sl_law : Array (Option Value)}
    {tk_FIGURES_fractions tk_MOST_FIGURES tk_MOST_BOXES tk_FIGURES_readertexts dk_fraction_of0 dk_need_readers0 : Tok}
    {nm_BoughError qn_BoughError : Str} {Nn_BoughError : Addr} {bs_BoughError : List Value} {sn_BoughError : List Str} {sub_BoughError : List Value} {ab_BoughError : Bool} {col_BoughError : Option Bool} {dd_BoughError : Option Addr} {m0_BoughError m1_BoughError m2_BoughError m3_BoughError m5_BoughError : Option Value}
    {nm_NoText qn_NoText : Str} {Nn_NoText : Addr} {bs_NoText : List Value} {sn_NoText : List Str} {sub_NoText : List Value} {ab_NoText : Bool} {col_NoText : Option Bool} {dd_NoText : Option Addr} {m0_NoText m1_NoText m2_NoText m3_NoText m5_NoText : Option Value}
    {nm_NoReader qn_NoReader : Str} {Nn_NoReader : Addr} {bs_NoReader : List Value} {sn_NoReader : List Str} {sub_NoReader : List Value} {ab_NoReader : Bool} {col_NoReader : Option Bool} {dd_NoReader : Option Addr} {m0_NoReader m1_NoReader m2_NoReader m3_NoReader m5_NoReader : Option Value}
    {nm_Nought qn_Nought : Str} {Nn_Nought : Addr} {bs_Nought : List Value} {sn_Nought : List Str} {sub_Nought : List Value} {ab_Nought : Bool} {col_Nought : Option Bool} {dd_Nought : Option Addr} {m0_Nought m1_Nought m2_Nought m3_Nought m5_Nought : Option Value}
    {dn_fraction_of : Nat}
    {dn_need_readers : Nat}
    (ac_BoughError : PySem.W.nsIn K mainGlobals "BoughError" = some (some (.ref C_BoughError)))
    (xl_BoughError : K.lookup C_BoughError = some (excClassObj nm_BoughError qn_BoughError C_BoughError Nn_BoughError bs_BoughError [.type "ValueError", .type "Exception", .type "BaseException", .type "object"] true sn_BoughError sub_BoughError ab_BoughError col_BoughError dd_BoughError m0_BoughError m1_BoughError m2_BoughError m3_BoughError m5_BoughError "ValueError.__new__"))
    (xe_BoughError : PySem.W.subIn K (.ref C_BoughError) (.type "BaseException") = some true)
    (xt_BoughError : PySem.W.typeIn K (.ref C_BoughError) = some (.type "type"))
    (xk_BoughError : PySem.W.keepIn K (.ref C_BoughError) = true)
    (xi_BoughError : PySem.W.isClsIn K C_BoughError = true)
    (xs_BoughError : PySem.W.subIn K (.ref C_BoughError) (.ref C_BoughError) = some true)
    (g1_BoughError : PySem.W.findIn K (.ref C_BoughError) "__getattribute__" = some (some (.builtin "BaseException.__getattribute__")))
    (g2_BoughError : PySem.W.findIn K (.ref C_BoughError) "__getattr__" = some none)
    (g3_BoughError : PySem.W.hasDictIn K C_BoughError = true)
    (g4_BoughError : PySem.W.findIn K (.ref C_BoughError) "__class__" = some (some (.builtin "object.__class__")))
    (g5_BoughError : PySem.W.specialIn K (.builtin "object.__class__") "__get__" = some (some (.builtin "getset_descriptor.__get__")))
    (g6_BoughError : PySem.W.takesIn K (.builtin "object.__class__") = some true)
    (g7_BoughError : PySem.W.mroIn K C_BoughError (.type "object") = some true)
    (h1_BoughError : PySem.W.specialIn K (.ref C_BoughError) "__getattribute__" = some (some (.builtin "type.__getattribute__")))
    (h2_BoughError : PySem.W.readsIn K C_BoughError (.type "type") = true)
    (h3_BoughError : PySem.W.findCls K (.ref C_BoughError) (.type "type") "__init__" = some (.val (.builtin "ValueError.__init__")))
    (ac_NoText : PySem.W.nsIn K mainGlobals "NoText" = some (some (.ref C_NoText)))
    (xl_NoText : K.lookup C_NoText = some (excClassObj nm_NoText qn_NoText C_NoText Nn_NoText bs_NoText [.ref C_BoughError, .type "ValueError", .type "Exception", .type "BaseException", .type "object"] true sn_NoText sub_NoText ab_NoText col_NoText dd_NoText m0_NoText m1_NoText m2_NoText m3_NoText m5_NoText "ValueError.__new__"))
    (xe_NoText : PySem.W.subIn K (.ref C_NoText) (.type "BaseException") = some true)
    (xt_NoText : PySem.W.typeIn K (.ref C_NoText) = some (.type "type"))
    (xk_NoText : PySem.W.keepIn K (.ref C_NoText) = true)
    (xi_NoText : PySem.W.isClsIn K C_NoText = true)
    (xs_NoText : PySem.W.subIn K (.ref C_NoText) (.ref C_NoText) = some true)
    (g1_NoText : PySem.W.findIn K (.ref C_NoText) "__getattribute__" = some (some (.builtin "BaseException.__getattribute__")))
    (g2_NoText : PySem.W.findIn K (.ref C_NoText) "__getattr__" = some none)
    (g3_NoText : PySem.W.hasDictIn K C_NoText = true)
    (g4_NoText : PySem.W.findIn K (.ref C_NoText) "__class__" = some (some (.builtin "object.__class__")))
    (g5_NoText : PySem.W.specialIn K (.builtin "object.__class__") "__get__" = some (some (.builtin "getset_descriptor.__get__")))
    (g6_NoText : PySem.W.takesIn K (.builtin "object.__class__") = some true)
    (g7_NoText : PySem.W.mroIn K C_NoText (.type "object") = some true)
    (iI_NoText : PySem.W.findIn K (.ref C_NoText) "__init__" = some (some (.ref fI_NoText)))
    (tI_NoText : PySem.W.typeIn K (.ref fI_NoText) = some (.type "function"))
    (lI_NoText : K.lookup fI_NoText = some ⟨ocI_NoText, odI_NoText, .func (PySem.W.fnOf "__init__" "NoText.__init__" (defArgs sI_NoText) (defBody sI_NoText) (defScope sI_NoText) .none kVI_NoText dcI_NoText pmI_NoText anI_NoText cdI_NoText ctI_NoText), slI_NoText⟩)
    (cI_NoText : PySem.W.codeIn K cdI_NoText "NoText.__init__" = true)
    (kI_NoText : PySem.W.keepIn K (.ref fI_NoText) = true)
    (sa_NoText : PySem.W.findIn K (.ref C_NoText) "__setattr__" = some (some (.builtin "object.__setattr__")))
    (nf_NoText_row : PySem.W.findIn K (.ref C_NoText) "row" = some none)
    (ac_NoReader : PySem.W.nsIn K mainGlobals "NoReader" = some (some (.ref C_NoReader)))
    (xl_NoReader : K.lookup C_NoReader = some (excClassObj nm_NoReader qn_NoReader C_NoReader Nn_NoReader bs_NoReader [.ref C_BoughError, .type "ValueError", .type "Exception", .type "BaseException", .type "object"] true sn_NoReader sub_NoReader ab_NoReader col_NoReader dd_NoReader m0_NoReader m1_NoReader m2_NoReader m3_NoReader m5_NoReader "ValueError.__new__"))
    (xe_NoReader : PySem.W.subIn K (.ref C_NoReader) (.type "BaseException") = some true)
    (xt_NoReader : PySem.W.typeIn K (.ref C_NoReader) = some (.type "type"))
    (xk_NoReader : PySem.W.keepIn K (.ref C_NoReader) = true)
    (xi_NoReader : PySem.W.isClsIn K C_NoReader = true)
    (xs_NoReader : PySem.W.subIn K (.ref C_NoReader) (.ref C_NoReader) = some true)
    (g1_NoReader : PySem.W.findIn K (.ref C_NoReader) "__getattribute__" = some (some (.builtin "BaseException.__getattribute__")))
    (g2_NoReader : PySem.W.findIn K (.ref C_NoReader) "__getattr__" = some none)
    (g3_NoReader : PySem.W.hasDictIn K C_NoReader = true)
    (g4_NoReader : PySem.W.findIn K (.ref C_NoReader) "__class__" = some (some (.builtin "object.__class__")))
    (g5_NoReader : PySem.W.specialIn K (.builtin "object.__class__") "__get__" = some (some (.builtin "getset_descriptor.__get__")))
    (g6_NoReader : PySem.W.takesIn K (.builtin "object.__class__") = some true)
    (g7_NoReader : PySem.W.mroIn K C_NoReader (.type "object") = some true)
    (iI_NoReader : PySem.W.findIn K (.ref C_NoReader) "__init__" = some (some (.ref fI_NoReader)))
    (tI_NoReader : PySem.W.typeIn K (.ref fI_NoReader) = some (.type "function"))
    (lI_NoReader : K.lookup fI_NoReader = some ⟨ocI_NoReader, odI_NoReader, .func (PySem.W.fnOf "__init__" "NoReader.__init__" (defArgs sI_NoReader) (defBody sI_NoReader) (defScope sI_NoReader) .none kVI_NoReader dcI_NoReader pmI_NoReader anI_NoReader cdI_NoReader ctI_NoReader), slI_NoReader⟩)
    (cI_NoReader : PySem.W.codeIn K cdI_NoReader "NoReader.__init__" = true)
    (kI_NoReader : PySem.W.keepIn K (.ref fI_NoReader) = true)
    (sa_NoReader : PySem.W.findIn K (.ref C_NoReader) "__setattr__" = some (some (.builtin "object.__setattr__")))
    (nf_NoReader_word : PySem.W.findIn K (.ref C_NoReader) "word" = some none)
    (nf_NoReader_maker : PySem.W.findIn K (.ref C_NoReader) "maker" = some none)
    (ac_Nought : PySem.W.nsIn K mainGlobals "Nought" = some (some (.ref C_Nought)))
    (xl_Nought : K.lookup C_Nought = some (excClassObj nm_Nought qn_Nought C_Nought Nn_Nought bs_Nought [.type "ZeroDivisionError", .type "ArithmeticError", .type "Exception", .type "BaseException", .type "object"] true sn_Nought sub_Nought ab_Nought col_Nought dd_Nought m0_Nought m1_Nought m2_Nought m3_Nought m5_Nought "ZeroDivisionError.__new__"))
    (xe_Nought : PySem.W.subIn K (.ref C_Nought) (.type "BaseException") = some true)
    (xt_Nought : PySem.W.typeIn K (.ref C_Nought) = some (.type "type"))
    (xk_Nought : PySem.W.keepIn K (.ref C_Nought) = true)
    (xi_Nought : PySem.W.isClsIn K C_Nought = true)
    (xs_Nought : PySem.W.subIn K (.ref C_Nought) (.ref C_Nought) = some true)
    (g1_Nought : PySem.W.findIn K (.ref C_Nought) "__getattribute__" = some (some (.builtin "BaseException.__getattribute__")))
    (g2_Nought : PySem.W.findIn K (.ref C_Nought) "__getattr__" = some none)
    (g3_Nought : PySem.W.hasDictIn K C_Nought = true)
    (g4_Nought : PySem.W.findIn K (.ref C_Nought) "__class__" = some (some (.builtin "object.__class__")))
    (g5_Nought : PySem.W.specialIn K (.builtin "object.__class__") "__get__" = some (some (.builtin "getset_descriptor.__get__")))
    (g6_Nought : PySem.W.takesIn K (.builtin "object.__class__") = some true)
    (g7_Nought : PySem.W.mroIn K C_Nought (.type "object") = some true)
    (iI_Nought : PySem.W.findIn K (.ref C_Nought) "__init__" = some (some (.ref fI_Nought)))
    (tI_Nought : PySem.W.typeIn K (.ref fI_Nought) = some (.type "function"))
    (lI_Nought : K.lookup fI_Nought = some ⟨ocI_Nought, odI_Nought, .func (PySem.W.fnOf "__init__" "Nought.__init__" (defArgs sI_Nought) (defBody sI_Nought) (defScope sI_Nought) .none kVI_Nought dcI_Nought pmI_Nought anI_Nought cdI_Nought ctI_Nought), slI_Nought⟩)
    (cI_Nought : PySem.W.codeIn K cdI_Nought "Nought.__init__" = true)
    (kI_Nought : PySem.W.keepIn K (.ref fI_Nought) = true)
    (vb_ValueError : PySem.W.findCls K (.type "ValueError") (.type "type") "__init__" = some (.val (.builtin "ValueError.__init__")))
    (vb_ZeroDivisionError : PySem.W.findCls K (.type "ZeroDivisionError") (.type "type") "__init__" = some (.val (.builtin "ZeroDivisionError.__init__")))
    (mc_FIGURES_fractions : PySem.W.nsIn K mainGlobals "FIGURES_fractions" = some (some (.str "0123456789" tk_FIGURES_fractions)))
    (mc_MOST_FIGURES : PySem.W.nsIn K mainGlobals "MOST_FIGURES" = some (some (.int 30 tk_MOST_FIGURES)))
    (mc_MOST_BOXES : PySem.W.nsIn K mainGlobals "MOST_BOXES" = some (some (.int 4 tk_MOST_BOXES)))
    (mc_FIGURES_readertexts : PySem.W.nsIn K mainGlobals "FIGURES_readertexts" = some (some (.str "0123456789" tk_FIGURES_readertexts)))
    (a_common_part : PySem.W.nsIn K mainGlobals "common_part" = some (some (.ref f_common_part)))
    (l_common_part : K.lookup f_common_part = some ⟨oc_common_part, od_common_part, .func (PySem.W.fnOf "common_part" "common_part" (defArgs s_common_part) (defBody s_common_part) (defScope s_common_part) .none kV_common_part dc_common_part pm_common_part an_common_part cd_common_part ct_common_part), sl_common_part⟩)
    (c_common_part : PySem.W.codeIn K cd_common_part "common_part" = true)
    (k_common_part : PySem.W.keepIn K (.ref f_common_part) = true)
    (a_fraction_of : PySem.W.nsIn K mainGlobals "fraction_of" = some (some (.ref f_fraction_of)))
    (l_fraction_of : K.lookup f_fraction_of = some ⟨oc_fraction_of, od_fraction_of, .func (PySem.W.fnOf "fraction_of" "fraction_of" (defArgs s_fraction_of) (defBody s_fraction_of) (defScope s_fraction_of) (.ref dt_fraction_of) kV_fraction_of dc_fraction_of pm_fraction_of an_fraction_of cd_fraction_of ct_fraction_of), sl_fraction_of⟩)
    (c_fraction_of : PySem.W.codeIn K cd_fraction_of "fraction_of" = true)
    (k_fraction_of : PySem.W.keepIn K (.ref f_fraction_of) = true)
    (t_fraction_of : K.lookup dt_fraction_of = some ⟨do_fraction_of, dd_fraction_of, .seq #[.int 1 dk_fraction_of0] dn_fraction_of, ds_fraction_of⟩)
    (a_show_fraction : PySem.W.nsIn K mainGlobals "show_fraction" = some (some (.ref f_show_fraction)))
    (l_show_fraction : K.lookup f_show_fraction = some ⟨oc_show_fraction, od_show_fraction, .func (PySem.W.fnOf "show_fraction" "show_fraction" (defArgs s_show_fraction) (defBody s_show_fraction) (defScope s_show_fraction) .none kV_show_fraction dc_show_fraction pm_show_fraction an_show_fraction cd_show_fraction ct_show_fraction), sl_show_fraction⟩)
    (c_show_fraction : PySem.W.codeIn K cd_show_fraction "show_fraction" = true)
    (k_show_fraction : PySem.W.keepIn K (.ref f_show_fraction) = true)
    (a_is_figures : PySem.W.nsIn K mainGlobals "is_figures" = some (some (.ref f_is_figures)))
    (l_is_figures : K.lookup f_is_figures = some ⟨oc_is_figures, od_is_figures, .func (PySem.W.fnOf "is_figures" "is_figures" (defArgs s_is_figures) (defBody s_is_figures) (defScope s_is_figures) .none kV_is_figures dc_is_figures pm_is_figures an_is_figures cd_is_figures ct_is_figures), sl_is_figures⟩)
    (c_is_figures : PySem.W.codeIn K cd_is_figures "is_figures" = true)
    (k_is_figures : PySem.W.keepIn K (.ref f_is_figures) = true)
    (a_read_fraction : PySem.W.nsIn K mainGlobals "read_fraction" = some (some (.ref f_read_fraction)))
    (l_read_fraction : K.lookup f_read_fraction = some ⟨oc_read_fraction, od_read_fraction, .func (PySem.W.fnOf "read_fraction" "read_fraction" (defArgs s_read_fraction) (defBody s_read_fraction) (defScope s_read_fraction) .none kV_read_fraction dc_read_fraction pm_read_fraction an_read_fraction cd_read_fraction ct_read_fraction), sl_read_fraction⟩)
    (c_read_fraction : PySem.W.codeIn K cd_read_fraction "read_fraction" = true)
    (k_read_fraction : PySem.W.keepIn K (.ref f_read_fraction) = true)
    (a_kinds_by_name : PySem.W.nsIn K mainGlobals "kinds_by_name" = some (some (.ref f_kinds_by_name)))
    (l_kinds_by_name : K.lookup f_kinds_by_name = some ⟨oc_kinds_by_name, od_kinds_by_name, .func (PySem.W.fnOf "kinds_by_name" "kinds_by_name" (defArgs s_kinds_by_name) (defBody s_kinds_by_name) (defScope s_kinds_by_name) .none kV_kinds_by_name dc_kinds_by_name pm_kinds_by_name an_kinds_by_name cd_kinds_by_name ct_kinds_by_name), sl_kinds_by_name⟩)
    (c_kinds_by_name : PySem.W.codeIn K cd_kinds_by_name "kinds_by_name" = true)
    (k_kinds_by_name : PySem.W.keepIn K (.ref f_kinds_by_name) = true)
    (a_makers_of : PySem.W.nsIn K mainGlobals "makers_of" = some (some (.ref f_makers_of)))
    (l_makers_of : K.lookup f_makers_of = some ⟨oc_makers_of, od_makers_of, .func (PySem.W.fnOf "makers_of" "makers_of" (defArgs s_makers_of) (defBody s_makers_of) (defScope s_makers_of) .none kV_makers_of dc_makers_of pm_makers_of an_makers_of cd_makers_of ct_makers_of), sl_makers_of⟩)
    (c_makers_of : PySem.W.codeIn K cd_makers_of "makers_of" = true)
    (k_makers_of : PySem.W.keepIn K (.ref f_makers_of) = true)
    (a_maker_table : PySem.W.nsIn K mainGlobals "maker_table" = some (some (.ref f_maker_table)))
    (l_maker_table : K.lookup f_maker_table = some ⟨oc_maker_table, od_maker_table, .func (PySem.W.fnOf "maker_table" "maker_table" (defArgs s_maker_table) (defBody s_maker_table) (defScope s_maker_table) .none kV_maker_table dc_maker_table pm_maker_table an_maker_table cd_maker_table ct_maker_table), sl_maker_table⟩)
    (c_maker_table : PySem.W.codeIn K cd_maker_table "maker_table" = true)
    (k_maker_table : PySem.W.keepIn K (.ref f_maker_table) = true)
    (a_need_readers : PySem.W.nsIn K mainGlobals "need_readers" = some (some (.ref f_need_readers)))
    (l_need_readers : K.lookup f_need_readers = some ⟨oc_need_readers, od_need_readers, .func (PySem.W.fnOf "need" "need" (defArgs s_need_readers) (defBody s_need_readers) (defScope s_need_readers) (.ref dt_need_readers) kV_need_readers dc_need_readers pm_need_readers an_need_readers cd_need_readers ct_need_readers), sl_need_readers⟩)
    (c_need_readers : PySem.W.codeIn K cd_need_readers "need" = true)
    (k_need_readers : PySem.W.keepIn K (.ref f_need_readers) = true)
    (t_need_readers : K.lookup dt_need_readers = some ⟨do_need_readers, dd_need_readers, .seq #[.str "" dk_need_readers0] dn_need_readers, ds_need_readers⟩)
    (a_is_fraction : PySem.W.nsIn K mainGlobals "is_fraction" = some (some (.ref f_is_fraction)))
    (l_is_fraction : K.lookup f_is_fraction = some ⟨oc_is_fraction, od_is_fraction, .func (PySem.W.fnOf "is_fraction" "is_fraction" (defArgs s_is_fraction) (defBody s_is_fraction) (defScope s_is_fraction) .none kV_is_fraction dc_is_fraction pm_is_fraction an_is_fraction cd_is_fraction ct_is_fraction), sl_is_fraction⟩)
    (c_is_fraction : PySem.W.codeIn K cd_is_fraction "is_fraction" = true)
    (k_is_fraction : PySem.W.keepIn K (.ref f_is_fraction) = true)
    (a_look_term : PySem.W.nsIn K mainGlobals "look_term" = some (some (.ref f_look_term)))
    (l_look_term : K.lookup f_look_term = some ⟨oc_look_term, od_look_term, .func (PySem.W.fnOf "look_term" "look_term" (defArgs s_look_term) (defBody s_look_term) (defScope s_look_term) .none kV_look_term dc_look_term pm_look_term an_look_term cd_look_term ct_look_term), sl_look_term⟩)
    (c_look_term : PySem.W.codeIn K cd_look_term "look_term" = true)
    (k_look_term : PySem.W.keepIn K (.ref f_look_term) = true)
    (a_look_reader : PySem.W.nsIn K mainGlobals "look_reader" = some (some (.ref f_look_reader)))
    (l_look_reader : K.lookup f_look_reader = some ⟨oc_look_reader, od_look_reader, .func (PySem.W.fnOf "look_reader" "look_reader" (defArgs s_look_reader) (defBody s_look_reader) (defScope s_look_reader) .none kV_look_reader dc_look_reader pm_look_reader an_look_reader cd_look_reader ct_look_reader), sl_look_reader⟩)
    (c_look_reader : PySem.W.codeIn K cd_look_reader "look_reader" = true)
    (k_look_reader : PySem.W.keepIn K (.ref f_look_reader) = true)
    (a_term_text : PySem.W.nsIn K mainGlobals "term_text" = some (some (.ref f_term_text)))
    (l_term_text : K.lookup f_term_text = some ⟨oc_term_text, od_term_text, .func (PySem.W.fnOf "term_text" "term_text" (defArgs s_term_text) (defBody s_term_text) (defScope s_term_text) .none kV_term_text dc_term_text pm_term_text an_term_text cd_term_text ct_term_text), sl_term_text⟩)
    (c_term_text : PySem.W.codeIn K cd_term_text "term_text" = true)
    (k_term_text : PySem.W.keepIn K (.ref f_term_text) = true)
    (a_show_reader : PySem.W.nsIn K mainGlobals "show_reader" = some (some (.ref f_show_reader)))
    (l_show_reader : K.lookup f_show_reader = some ⟨oc_show_reader, od_show_reader, .func (PySem.W.fnOf "show_reader" "show_reader" (defArgs s_show_reader) (defBody s_show_reader) (defScope s_show_reader) .none kV_show_reader dc_show_reader pm_show_reader an_show_reader cd_show_reader ct_show_reader), sl_show_reader⟩)
    (c_show_reader : PySem.W.codeIn K cd_show_reader "show_reader" = true)
    (k_show_reader : PySem.W.keepIn K (.ref f_show_reader) = true)
    (a_need_readertexts : PySem.W.nsIn K mainGlobals "need_readertexts" = some (some (.ref f_need_readertexts)))
    (l_need_readertexts : K.lookup f_need_readertexts = some ⟨oc_need_readertexts, od_need_readertexts, .func (PySem.W.fnOf "need" "need" (defArgs s_need_readertexts) (defBody s_need_readertexts) (defScope s_need_readertexts) .none kV_need_readertexts dc_need_readertexts pm_need_readertexts an_need_readertexts cd_need_readertexts ct_need_readertexts), sl_need_readertexts⟩)
    (c_need_readertexts : PySem.W.codeIn K cd_need_readertexts "need" = true)
    (k_need_readertexts : PySem.W.keepIn K (.ref f_need_readertexts) = true)
    (a_number_in : PySem.W.nsIn K mainGlobals "number_in" = some (some (.ref f_number_in)))
    (l_number_in : K.lookup f_number_in = some ⟨oc_number_in, od_number_in, .func (PySem.W.fnOf "number_in" "number_in" (defArgs s_number_in) (defBody s_number_in) (defScope s_number_in) .none kV_number_in dc_number_in pm_number_in an_number_in cd_number_in ct_number_in), sl_number_in⟩)
    (c_number_in : PySem.W.codeIn K cd_number_in "number_in" = true)
    (k_number_in : PySem.W.keepIn K (.ref f_number_in) = true)
    (a_read_term : PySem.W.nsIn K mainGlobals "read_term" = some (some (.ref f_read_term)))
    (l_read_term : K.lookup f_read_term = some ⟨oc_read_term, od_read_term, .func (PySem.W.fnOf "read_term" "read_term" (defArgs s_read_term) (defBody s_read_term) (defScope s_read_term) .none kV_read_term dc_read_term pm_read_term an_read_term cd_read_term ct_read_term), sl_read_term⟩)
    (c_read_term : PySem.W.codeIn K cd_read_term "read_term" = true)
    (k_read_term : PySem.W.keepIn K (.ref f_read_term) = true)
    (a_read_sum : PySem.W.nsIn K mainGlobals "read_sum" = some (some (.ref f_read_sum)))
    (l_read_sum : K.lookup f_read_sum = some ⟨oc_read_sum, od_read_sum, .func (PySem.W.fnOf "read_sum" "read_sum" (defArgs s_read_sum) (defBody s_read_sum) (defScope s_read_sum) .none kV_read_sum dc_read_sum pm_read_sum an_read_sum cd_read_sum ct_read_sum), sl_read_sum⟩)
    (c_read_sum : PySem.W.codeIn K cd_read_sum "read_sum" = true)
    (k_read_sum : PySem.W.keepIn K (.ref f_read_sum) = true)
    (a_read_reader : PySem.W.nsIn K mainGlobals "read_reader" = some (some (.ref f_read_reader)))
    (l_read_reader : K.lookup f_read_reader = some ⟨oc_read_reader, od_read_reader, .func (PySem.W.fnOf "read_reader" "read_reader" (defArgs s_read_reader) (defBody s_read_reader) (defScope s_read_reader) .none kV_read_reader dc_read_reader pm_read_reader an_read_reader cd_read_reader ct_read_reader), sl_read_reader⟩)
    (c_read_reader : PySem.W.codeIn K cd_read_reader "read_reader" = true)
    (k_read_reader : PySem.W.keepIn K (.ref f_read_reader) = true)
    (a_law_box : PySem.W.nsIn K mainGlobals "_law_box" = some (some (.ref f_law_box)))
    (l_law_box : K.lookup f_law_box = some ⟨oc_law_box, od_law_box, .func (PySem.W.fnOf "_law_box" "_law_box" (defArgs s_law_box) (defBody s_law_box) (defScope s_law_box) .none kV_law_box dc_law_box pm_law_box an_law_box cd_law_box ct_law_box), sl_law_box⟩)
    (c_law_box : PySem.W.codeIn K cd_law_box "_law_box" = true)
    (k_law_box : PySem.W.keepIn K (.ref f_law_box) = true)
    (a_law_take : PySem.W.nsIn K mainGlobals "_law_take" = some (some (.ref f_law_take)))
    (l_law_take : K.lookup f_law_take = some ⟨oc_law_take, od_law_take, .func (PySem.W.fnOf "_law_take" "_law_take" (defArgs s_law_take) (defBody s_law_take) (defScope s_law_take) .none kV_law_take dc_law_take pm_law_take an_law_take cd_law_take ct_law_take), sl_law_take⟩)
    (c_law_take : PySem.W.codeIn K cd_law_take "_law_take" = true)
    (k_law_take : PySem.W.keepIn K (.ref f_law_take) = true)
    (a_law_names : PySem.W.nsIn K mainGlobals "_law_names" = some (some (.ref f_law_names)))
    (l_law_names : K.lookup f_law_names = some ⟨oc_law_names, od_law_names, .func (PySem.W.fnOf "_law_names" "_law_names" (defArgs s_law_names) (defBody s_law_names) (defScope s_law_names) .none kV_law_names dc_law_names pm_law_names an_law_names cd_law_names ct_law_names), sl_law_names⟩)
    (c_law_names : PySem.W.codeIn K cd_law_names "_law_names" = true)
    (k_law_names : PySem.W.keepIn K (.ref f_law_names) = true)
    (a_law_wood : PySem.W.nsIn K mainGlobals "_law_wood" = some (some (.ref f_law_wood)))
    (l_law_wood : K.lookup f_law_wood = some ⟨oc_law_wood, od_law_wood, .func (PySem.W.fnOf "_law_wood" "_law_wood" (defArgs s_law_wood) (defBody s_law_wood) (defScope s_law_wood) .none kV_law_wood dc_law_wood pm_law_wood an_law_wood cd_law_wood ct_law_wood), sl_law_wood⟩)
    (c_law_wood : PySem.W.codeIn K cd_law_wood "_law_wood" = true)
    (k_law_wood : PySem.W.keepIn K (.ref f_law_wood) = true)
    (a_law_makers : PySem.W.nsIn K mainGlobals "_law_makers" = some (some (.ref f_law_makers)))
    (l_law_makers : K.lookup f_law_makers = some ⟨oc_law_makers, od_law_makers, .func (PySem.W.fnOf "_law_makers" "_law_makers" (defArgs s_law_makers) (defBody s_law_makers) (defScope s_law_makers) .none kV_law_makers dc_law_makers pm_law_makers an_law_makers cd_law_makers ct_law_makers), sl_law_makers⟩)
    (c_law_makers : PySem.W.codeIn K cd_law_makers "_law_makers" = true)
    (k_law_makers : PySem.W.keepIn K (.ref f_law_makers) = true)
    (a_law_shared : PySem.W.nsIn K mainGlobals "_law_shared" = some (some (.ref f_law_shared)))
    (l_law_shared : K.lookup f_law_shared = some ⟨oc_law_shared, od_law_shared, .func (PySem.W.fnOf "_law_shared" "_law_shared" (defArgs s_law_shared) (defBody s_law_shared) (defScope s_law_shared) .none kV_law_shared dc_law_shared pm_law_shared an_law_shared cd_law_shared ct_law_shared), sl_law_shared⟩)
    (c_law_shared : PySem.W.codeIn K cd_law_shared "_law_shared" = true)
    (k_law_shared : PySem.W.keepIn K (.ref f_law_shared) = true)
    (a_law_fraction : PySem.W.nsIn K mainGlobals "_law_fraction" = some (some (.ref f_law_fraction)))
    (l_law_fraction : K.lookup f_law_fraction = some ⟨oc_law_fraction, od_law_fraction, .func (PySem.W.fnOf "_law_fraction" "_law_fraction" (defArgs s_law_fraction) (defBody s_law_fraction) (defScope s_law_fraction) .none kV_law_fraction dc_law_fraction pm_law_fraction an_law_fraction cd_law_fraction ct_law_fraction), sl_law_fraction⟩)
    (c_law_fraction : PySem.W.codeIn K cd_law_fraction "_law_fraction" = true)
    (k_law_fraction : PySem.W.keepIn K (.ref f_law_fraction) = true)
    (a_law_reader : PySem.W.nsIn K mainGlobals "_law_reader" = some (some (.ref f_law_reader)))
    (l_law_reader : K.lookup f_law_reader = some ⟨oc_law_reader, od_law_reader, .func (PySem.W.fnOf "_law_reader" "_law_reader" (defArgs s_law_reader) (defBody s_law_reader) (defScope s_law_reader) .none kV_law_reader dc_law_reader pm_law_reader an_law_reader cd_law_reader ct_law_reader), sl_law_reader⟩)
    (c_law_reader : PySem.W.codeIn K cd_law_reader "_law_reader" = true)
    (k_law_reader : PySem.W.keepIn K (.ref f_law_reader) = true)
    (a_law_text_of : PySem.W.nsIn K mainGlobals "_law_text_of" = some (some (.ref f_law_text_of)))
    (l_law_text_of : K.lookup f_law_text_of = some ⟨oc_law_text_of, od_law_text_of, .func (PySem.W.fnOf "_law_text_of" "_law_text_of" (defArgs s_law_text_of) (defBody s_law_text_of) (defScope s_law_text_of) .none kV_law_text_of dc_law_text_of pm_law_text_of an_law_text_of cd_law_text_of ct_law_text_of), sl_law_text_of⟩)
    (c_law_text_of : PySem.W.codeIn K cd_law_text_of "_law_text_of" = true)
    (k_law_text_of : PySem.W.keepIn K (.ref f_law_text_of) = true)
    (a_law_reader_rows : PySem.W.nsIn K mainGlobals "_law_reader_rows" = some (some (.ref f_law_reader_rows)))
    (l_law_reader_rows : K.lookup f_law_reader_rows = some ⟨oc_law_reader_rows, od_law_reader_rows, .func (PySem.W.fnOf "_law_reader_rows" "_law_reader_rows" (defArgs s_law_reader_rows) (defBody s_law_reader_rows) (defScope s_law_reader_rows) .none kV_law_reader_rows dc_law_reader_rows pm_law_reader_rows an_law_reader_rows cd_law_reader_rows ct_law_reader_rows), sl_law_reader_rows⟩)
    (c_law_reader_rows : PySem.W.codeIn K cd_law_reader_rows "_law_reader_rows" = true)
    (k_law_reader_rows : PySem.W.keepIn K (.ref f_law_reader_rows) = true)
    (a_law_alike : PySem.W.nsIn K mainGlobals "_law_alike" = some (some (.ref f_law_alike)))
    (l_law_alike : K.lookup f_law_alike = some ⟨oc_law_alike, od_law_alike, .func (PySem.W.fnOf "_law_alike" "_law_alike" (defArgs s_law_alike) (defBody s_law_alike) (defScope s_law_alike) .none kV_law_alike dc_law_alike pm_law_alike an_law_alike cd_law_alike ct_law_alike), sl_law_alike⟩)
    (c_law_alike : PySem.W.codeIn K cd_law_alike "_law_alike" = true)
    (k_law_alike : PySem.W.keepIn K (.ref f_law_alike) = true)
    (a_law_right : PySem.W.nsIn K mainGlobals "_law_right" = some (some (.ref f_law_right)))
    (l_law_right : K.lookup f_law_right = some ⟨oc_law_right, od_law_right, .func (PySem.W.fnOf "_law_right" "_law_right" (defArgs s_law_right) (defBody s_law_right) (defScope s_law_right) .none kV_law_right dc_law_right pm_law_right an_law_right cd_law_right ct_law_right), sl_law_right⟩)
    (c_law_right : PySem.W.codeIn K cd_law_right "_law_right" = true)
    (k_law_right : PySem.W.keepIn K (.ref f_law_right) = true)
    (a_law : PySem.W.nsIn K mainGlobals "law" = some (some (.ref f_law)))
    (l_law : K.lookup f_law = some ⟨oc_law, od_law, .func (PySem.W.fnOf "law" "law" (defArgs s_law) (defBody s_law) (defScope s_law) .none kV_law dc_law pm_law an_law cd_law ct_law), sl_law⟩)
    (c_law : PySem.W.codeIn K cd_law "law" = true)
    (k_law : PySem.W.keepIn K (.ref f_law) = true)
    (zb_ValueError : PySem.W.nsIn K mainGlobals "ValueError" = some none)
    (zb_ZeroDivisionError : PySem.W.nsIn K mainGlobals "ZeroDivisionError" = some none)
    (zb_abs : PySem.W.nsIn K mainGlobals "abs" = some none)
    (zb_all : PySem.W.nsIn K mainGlobals "all" = some none)
    (zb_bool : PySem.W.nsIn K mainGlobals "bool" = some none)
    (zb_dict : PySem.W.nsIn K mainGlobals "dict" = some none)
    (zb_enumerate : PySem.W.nsIn K mainGlobals "enumerate" = some none)
    (zb_int : PySem.W.nsIn K mainGlobals "int" = some none)
    (zb_isinstance : PySem.W.nsIn K mainGlobals "isinstance" = some none)
    (zb_len : PySem.W.nsIn K mainGlobals "len" = some none)
    (zb_list : PySem.W.nsIn K mainGlobals "list" = some none)
    (zb_max : PySem.W.nsIn K mainGlobals "max" = some none)
    (zb_min : PySem.W.nsIn K mainGlobals "min" = some none)
    (zb_range : PySem.W.nsIn K mainGlobals "range" = some none)
    (zb_str : PySem.W.nsIn K mainGlobals "str" = some none)
    (zb_tuple : PySem.W.nsIn K mainGlobals "tuple" = some none)
    (zb_zip : PySem.W.nsIn K mainGlobals "zip" = some none)
    : ∃ T : Txt K mg, T.a_law = f_law ∧ ∀ (s : Shared) (v : Value), BindsTo s T.d_law ⟨[v], []⟩ [("_law_script", v)] := by
  refine ⟨{
    a_BoughError := C_BoughError,
    m_BoughError := PySem.W.mg_of X G ac_BoughError,
    x_BoughError := ⟨⟨_, _, _, _, _, _, _, _, _, _, _, _, _, _, _, xl_BoughError, fun Y => rfl⟩, xe_BoughError, xt_BoughError, xk_BoughError⟩,
    i0_BoughError := xi_BoughError,
    t0_BoughError := xt_BoughError,
    s0_BoughError := xs_BoughError,
    e_BoughError := exm_self xe_BoughError xi_BoughError xt_BoughError xs_BoughError,
    c_BoughError := ⟨g1_BoughError, g2_BoughError, xe_BoughError, g3_BoughError, g4_BoughError, g5_BoughError, g6_BoughError, g7_BoughError⟩,
    h_BoughError := ⟨h1_BoughError, h2_BoughError, h3_BoughError⟩,
    a_NoText := C_NoText,
    m_NoText := PySem.W.mg_of X G ac_NoText,
    x_NoText := ⟨⟨_, _, _, _, _, _, _, _, _, _, _, _, _, _, _, xl_NoText, fun Y => rfl⟩, xe_NoText, xt_NoText, xk_NoText⟩,
    i0_NoText := xi_NoText,
    t0_NoText := xt_NoText,
    s0_NoText := xs_NoText,
    e_NoText := exm_self xe_NoText xi_NoText xt_NoText xs_NoText,
    c_NoText := ⟨g1_NoText, g2_NoText, xe_NoText, g3_NoText, g4_NoText, g5_NoText, g6_NoText, g7_NoText⟩,
    aI_NoText := fI_NoText,
    dI_NoText := _,
    FI_NoText := fun_mk (st := sI_NoText) lI_NoText cI_NoText kI_NoText,
    bI_NoText := (fun_mk (st := sI_NoText) lI_NoText cI_NoText kI_NoText).binds (ps := ["self", "row"]) fun _ _ _ _ _ _ us hl => match us, hl with | [_, _], _ => rfl,
    i_NoText := iI_NoText,
    t_NoText := tI_NoText,
    o_NoText := ⟨⟨_, _, _, _, _, _, _, _, _, _, _, _, _, _, _, xl_NoText, rfl⟩, sa_NoText, xe_NoText, xt_NoText, xk_NoText⟩,
    n_NoText_row := nf_NoText_row,
    a_NoReader := C_NoReader,
    m_NoReader := PySem.W.mg_of X G ac_NoReader,
    x_NoReader := ⟨⟨_, _, _, _, _, _, _, _, _, _, _, _, _, _, _, xl_NoReader, fun Y => rfl⟩, xe_NoReader, xt_NoReader, xk_NoReader⟩,
    i0_NoReader := xi_NoReader,
    t0_NoReader := xt_NoReader,
    s0_NoReader := xs_NoReader,
    e_NoReader := exm_self xe_NoReader xi_NoReader xt_NoReader xs_NoReader,
    c_NoReader := ⟨g1_NoReader, g2_NoReader, xe_NoReader, g3_NoReader, g4_NoReader, g5_NoReader, g6_NoReader, g7_NoReader⟩,
    aI_NoReader := fI_NoReader,
    dI_NoReader := _,
    FI_NoReader := fun_mk (st := sI_NoReader) lI_NoReader cI_NoReader kI_NoReader,
    bI_NoReader := (fun_mk (st := sI_NoReader) lI_NoReader cI_NoReader kI_NoReader).binds (ps := ["self", "word", "maker"]) fun _ _ _ _ _ _ us hl => match us, hl with | [_, _, _], _ => rfl,
    i_NoReader := iI_NoReader,
    t_NoReader := tI_NoReader,
    o_NoReader := ⟨⟨_, _, _, _, _, _, _, _, _, _, _, _, _, _, _, xl_NoReader, rfl⟩, sa_NoReader, xe_NoReader, xt_NoReader, xk_NoReader⟩,
    n_NoReader_word := nf_NoReader_word,
    n_NoReader_maker := nf_NoReader_maker,
    a_Nought := C_Nought,
    m_Nought := PySem.W.mg_of X G ac_Nought,
    x_Nought := ⟨⟨_, _, _, _, _, _, _, _, _, _, _, _, _, _, _, xl_Nought, fun Y => rfl⟩, xe_Nought, xt_Nought, xk_Nought⟩,
    i0_Nought := xi_Nought,
    t0_Nought := xt_Nought,
    s0_Nought := xs_Nought,
    e_Nought := exm_self xe_Nought xi_Nought xt_Nought xs_Nought,
    c_Nought := ⟨g1_Nought, g2_Nought, xe_Nought, g3_Nought, g4_Nought, g5_Nought, g6_Nought, g7_Nought⟩,
    aI_Nought := fI_Nought,
    dI_Nought := _,
    FI_Nought := fun_mk (st := sI_Nought) lI_Nought cI_Nought kI_Nought,
    bI_Nought := (fun_mk (st := sI_Nought) lI_Nought cI_Nought kI_Nought).binds (ps := ["self"]) fun _ _ _ _ _ _ us hl => match us, hl with | [_], _ => rfl,
    i_Nought := iI_Nought,
    t_Nought := tI_Nought,
    v_ValueError := vb_ValueError,
    v_ZeroDivisionError := vb_ZeroDivisionError,
    m_FIGURES_fractions := ⟨_, PySem.W.mg_of X G mc_FIGURES_fractions, ⟨_, rfl⟩⟩,
    m_MOST_FIGURES := ⟨_, PySem.W.mg_of X G mc_MOST_FIGURES, ⟨_, rfl⟩⟩,
    m_MOST_BOXES := ⟨_, PySem.W.mg_of X G mc_MOST_BOXES, ⟨_, rfl⟩⟩,
    m_FIGURES_readertexts := ⟨_, PySem.W.mg_of X G mc_FIGURES_readertexts, ⟨_, rfl⟩⟩,
    a_common_part := f_common_part,
    d_common_part := _,
    m_common_part := PySem.W.mg_of X G a_common_part,
    F_common_part := fun_mk (st := s_common_part) l_common_part c_common_part k_common_part,
    b_common_part := (fun_mk (st := s_common_part) l_common_part c_common_part k_common_part).binds (ps := ["one", "other"]) fun _ _ _ _ _ _ us hl => match us, hl with | [_, _], _ => rfl,
    a_fraction_of := f_fraction_of,
    d_fraction_of := _,
    m_fraction_of := PySem.W.mg_of X G a_fraction_of,
    F_fraction_of := (FunD.mk ⟨_, _, _, _, _, _, _, _, _, _, rfl, l_fraction_of, c_fraction_of, .inr ⟨by simp, _, _, [.int 1 dk_fraction_of0], _, rfl, t_fraction_of, rfl, (.cons ⟨_, rfl⟩ .nil)⟩, .inl rfl⟩ k_fraction_of : FunD K "fraction_of" "fraction_of" (defArgs s_fraction_of) (defBody s_fraction_of) (defScope s_fraction_of) [.int 1] [] f_fraction_of _),
    b_fraction_of := binds_all ((FunD.mk ⟨_, _, _, _, _, _, _, _, _, _, rfl, l_fraction_of, c_fraction_of, .inr ⟨by simp, _, _, [.int 1 dk_fraction_of0], _, rfl, t_fraction_of, rfl, (.cons ⟨_, rfl⟩ .nil)⟩, .inl rfl⟩ k_fraction_of : FunD K "fraction_of" "fraction_of" (defArgs s_fraction_of) (defBody s_fraction_of) (defScope s_fraction_of) [.int 1] [] f_fraction_of _).binds1 (ps := ["upper", "lower"]) 2 1 (by simp) rfl fun _ _ _ _ _ _ _ us its hl hi => match us, hl, its, hi with | [_, _], _, [_], _ => ⟨_, rfl, rfl⟩),
    bv_fraction_of1 := (FunD.mk ⟨_, _, _, _, _, _, _, _, _, _, rfl, l_fraction_of, c_fraction_of, .inr ⟨by simp, _, _, [.int 1 dk_fraction_of0], _, rfl, t_fraction_of, rfl, (.cons ⟨_, rfl⟩ .nil)⟩, .inl rfl⟩ k_fraction_of : FunD K "fraction_of" "fraction_of" (defArgs s_fraction_of) (defBody s_fraction_of) (defScope s_fraction_of) [.int 1] [] f_fraction_of _).binds1 (ps := ["upper", "lower"]) 1 0 (by simp) rfl fun _ _ _ _ _ _ _ us its hl hi => match us, hl, its, hi with | [_], _, [_], _ => ⟨_, rfl, rfl⟩,
    a_show_fraction := f_show_fraction,
    d_show_fraction := _,
    m_show_fraction := PySem.W.mg_of X G a_show_fraction,
    F_show_fraction := fun_mk (st := s_show_fraction) l_show_fraction c_show_fraction k_show_fraction,
    b_show_fraction := (fun_mk (st := s_show_fraction) l_show_fraction c_show_fraction k_show_fraction).binds (ps := ["one"]) fun _ _ _ _ _ _ us hl => match us, hl with | [_], _ => rfl,
    a_is_figures := f_is_figures,
    d_is_figures := _,
    m_is_figures := PySem.W.mg_of X G a_is_figures,
    F_is_figures := fun_mk (st := s_is_figures) l_is_figures c_is_figures k_is_figures,
    b_is_figures := (fun_mk (st := s_is_figures) l_is_figures c_is_figures k_is_figures).binds (ps := ["text"]) fun _ _ _ _ _ _ us hl => match us, hl with | [_], _ => rfl,
    a_read_fraction := f_read_fraction,
    d_read_fraction := _,
    m_read_fraction := PySem.W.mg_of X G a_read_fraction,
    F_read_fraction := fun_mk (st := s_read_fraction) l_read_fraction c_read_fraction k_read_fraction,
    b_read_fraction := (fun_mk (st := s_read_fraction) l_read_fraction c_read_fraction k_read_fraction).binds (ps := ["text"]) fun _ _ _ _ _ _ us hl => match us, hl with | [_], _ => rfl,
    a_kinds_by_name := f_kinds_by_name,
    d_kinds_by_name := _,
    m_kinds_by_name := PySem.W.mg_of X G a_kinds_by_name,
    F_kinds_by_name := fun_mk (st := s_kinds_by_name) l_kinds_by_name c_kinds_by_name k_kinds_by_name,
    b_kinds_by_name := (fun_mk (st := s_kinds_by_name) l_kinds_by_name c_kinds_by_name k_kinds_by_name).binds (ps := ["wood"]) fun _ _ _ _ _ _ us hl => match us, hl with | [_], _ => rfl,
    a_makers_of := f_makers_of,
    d_makers_of := _,
    m_makers_of := PySem.W.mg_of X G a_makers_of,
    F_makers_of := fun_mk (st := s_makers_of) l_makers_of c_makers_of k_makers_of,
    b_makers_of := (fun_mk (st := s_makers_of) l_makers_of c_makers_of k_makers_of).binds (ps := ["wood"]) fun _ _ _ _ _ _ us hl => match us, hl with | [_], _ => rfl,
    a_maker_table := f_maker_table,
    d_maker_table := _,
    m_maker_table := PySem.W.mg_of X G a_maker_table,
    F_maker_table := fun_mk (st := s_maker_table) l_maker_table c_maker_table k_maker_table,
    b_maker_table := (fun_mk (st := s_maker_table) l_maker_table c_maker_table k_maker_table).binds (ps := ["wood"]) fun _ _ _ _ _ _ us hl => match us, hl with | [_], _ => rfl,
    a_need_readers := f_need_readers,
    d_need_readers := _,
    m_need_readers := PySem.W.mg_of X G a_need_readers,
    F_need_readers := (FunD.mk ⟨_, _, _, _, _, _, _, _, _, _, rfl, l_need_readers, c_need_readers, .inr ⟨by simp, _, _, [.str "" dk_need_readers0], _, rfl, t_need_readers, rfl, (.cons ⟨_, rfl⟩ .nil)⟩, .inl rfl⟩ k_need_readers : FunD K "need" "need" (defArgs s_need_readers) (defBody s_need_readers) (defScope s_need_readers) [.str ""] [] f_need_readers _),
    b_need_readers := binds_all ((FunD.mk ⟨_, _, _, _, _, _, _, _, _, _, rfl, l_need_readers, c_need_readers, .inr ⟨by simp, _, _, [.str "" dk_need_readers0], _, rfl, t_need_readers, rfl, (.cons ⟨_, rfl⟩ .nil)⟩, .inl rfl⟩ k_need_readers : FunD K "need" "need" (defArgs s_need_readers) (defBody s_need_readers) (defScope s_need_readers) [.str ""] [] f_need_readers _).binds1 (ps := ["good", "word", "maker"]) 3 1 (by simp) rfl fun _ _ _ _ _ _ _ us its hl hi => match us, hl, its, hi with | [_, _, _], _, [_], _ => ⟨_, rfl, rfl⟩),
    bv_need_readers1 := (FunD.mk ⟨_, _, _, _, _, _, _, _, _, _, rfl, l_need_readers, c_need_readers, .inr ⟨by simp, _, _, [.str "" dk_need_readers0], _, rfl, t_need_readers, rfl, (.cons ⟨_, rfl⟩ .nil)⟩, .inl rfl⟩ k_need_readers : FunD K "need" "need" (defArgs s_need_readers) (defBody s_need_readers) (defScope s_need_readers) [.str ""] [] f_need_readers _).binds1 (ps := ["good", "word", "maker"]) 2 0 (by simp) rfl fun _ _ _ _ _ _ _ us its hl hi => match us, hl, its, hi with | [_, _], _, [_], _ => ⟨_, rfl, rfl⟩,
    a_is_fraction := f_is_fraction,
    d_is_fraction := _,
    m_is_fraction := PySem.W.mg_of X G a_is_fraction,
    F_is_fraction := fun_mk (st := s_is_fraction) l_is_fraction c_is_fraction k_is_fraction,
    b_is_fraction := (fun_mk (st := s_is_fraction) l_is_fraction c_is_fraction k_is_fraction).binds (ps := ["number"]) fun _ _ _ _ _ _ us hl => match us, hl with | [_], _ => rfl,
    a_look_term := f_look_term,
    d_look_term := _,
    m_look_term := PySem.W.mg_of X G a_look_term,
    F_look_term := fun_mk (st := s_look_term) l_look_term c_look_term k_look_term,
    b_look_term := (fun_mk (st := s_look_term) l_look_term c_look_term k_look_term).binds (ps := ["counts", "parts", "term", "maker"]) fun _ _ _ _ _ _ us hl => match us, hl with | [_, _, _, _], _ => rfl,
    a_look_reader := f_look_reader,
    d_look_reader := _,
    m_look_reader := PySem.W.mg_of X G a_look_reader,
    F_look_reader := fun_mk (st := s_look_reader) l_look_reader c_look_reader k_look_reader,
    b_look_reader := (fun_mk (st := s_look_reader) l_look_reader c_look_reader k_look_reader).binds (ps := ["wood", "reader"]) fun _ _ _ _ _ _ us hl => match us, hl with | [_, _], _ => rfl,
    a_term_text := f_term_text,
    d_term_text := _,
    m_term_text := PySem.W.mg_of X G a_term_text,
    F_term_text := fun_mk (st := s_term_text) l_term_text c_term_text k_term_text,
    b_term_text := (fun_mk (st := s_term_text) l_term_text c_term_text k_term_text).binds (ps := ["term"]) fun _ _ _ _ _ _ us hl => match us, hl with | [_], _ => rfl,
    a_show_reader := f_show_reader,
    d_show_reader := _,
    m_show_reader := PySem.W.mg_of X G a_show_reader,
    F_show_reader := fun_mk (st := s_show_reader) l_show_reader c_show_reader k_show_reader,
    b_show_reader := (fun_mk (st := s_show_reader) l_show_reader c_show_reader k_show_reader).binds (ps := ["wood", "reader"]) fun _ _ _ _ _ _ us hl => match us, hl with | [_, _], _ => rfl,
    a_need_readertexts := f_need_readertexts,
    d_need_readertexts := _,
    m_need_readertexts := PySem.W.mg_of X G a_need_readertexts,
    F_need_readertexts := fun_mk (st := s_need_readertexts) l_need_readertexts c_need_readertexts k_need_readertexts,
    b_need_readertexts := (fun_mk (st := s_need_readertexts) l_need_readertexts c_need_readertexts k_need_readertexts).binds (ps := ["good", "row"]) fun _ _ _ _ _ _ us hl => match us, hl with | [_, _], _ => rfl,
    a_number_in := f_number_in,
    d_number_in := _,
    m_number_in := PySem.W.mg_of X G a_number_in,
    F_number_in := fun_mk (st := s_number_in) l_number_in c_number_in k_number_in,
    b_number_in := (fun_mk (st := s_number_in) l_number_in c_number_in k_number_in).binds (ps := ["word", "row"]) fun _ _ _ _ _ _ us hl => match us, hl with | [_, _], _ => rfl,
    a_read_term := f_read_term,
    d_read_term := _,
    m_read_term := PySem.W.mg_of X G a_read_term,
    F_read_term := fun_mk (st := s_read_term) l_read_term c_read_term k_read_term,
    b_read_term := (fun_mk (st := s_read_term) l_read_term c_read_term k_read_term).binds (ps := ["text", "many", "row"]) fun _ _ _ _ _ _ us hl => match us, hl with | [_, _, _], _ => rfl,
    a_read_sum := f_read_sum,
    d_read_sum := _,
    m_read_sum := PySem.W.mg_of X G a_read_sum,
    F_read_sum := fun_mk (st := s_read_sum) l_read_sum c_read_sum k_read_sum,
    b_read_sum := (fun_mk (st := s_read_sum) l_read_sum c_read_sum k_read_sum).binds (ps := ["text", "head", "many", "row"]) fun _ _ _ _ _ _ us hl => match us, hl with | [_, _, _, _], _ => rfl,
    a_read_reader := f_read_reader,
    d_read_reader := _,
    m_read_reader := PySem.W.mg_of X G a_read_reader,
    F_read_reader := fun_mk (st := s_read_reader) l_read_reader c_read_reader k_read_reader,
    b_read_reader := (fun_mk (st := s_read_reader) l_read_reader c_read_reader k_read_reader).binds (ps := ["wood", "text"]) fun _ _ _ _ _ _ us hl => match us, hl with | [_, _], _ => rfl,
    a_law_box := f_law_box,
    d_law_box := _,
    m_law_box := PySem.W.mg_of X G a_law_box,
    F_law_box := fun_mk (st := s_law_box) l_law_box c_law_box k_law_box,
    b_law_box := (fun_mk (st := s_law_box) l_law_box c_law_box k_law_box).binds (ps := ["_law_script", "_law_k"]) fun _ _ _ _ _ _ us hl => match us, hl with | [_, _], _ => rfl,
    a_law_take := f_law_take,
    d_law_take := _,
    m_law_take := PySem.W.mg_of X G a_law_take,
    F_law_take := fun_mk (st := s_law_take) l_law_take c_law_take k_law_take,
    b_law_take := (fun_mk (st := s_law_take) l_law_take c_law_take k_law_take).binds (ps := ["_law_box_here", "_law_many"]) fun _ _ _ _ _ _ us hl => match us, hl with | [_, _], _ => rfl,
    a_law_names := f_law_names,
    d_law_names := _,
    m_law_names := PySem.W.mg_of X G a_law_names,
    F_law_names := fun_mk (st := s_law_names) l_law_names c_law_names k_law_names,
    b_law_names := (fun_mk (st := s_law_names) l_law_names c_law_names k_law_names).binds (ps := ["_law_box_here", "_law_many"]) fun _ _ _ _ _ _ us hl => match us, hl with | [_, _], _ => rfl,
    a_law_wood := f_law_wood,
    d_law_wood := _,
    m_law_wood := PySem.W.mg_of X G a_law_wood,
    F_law_wood := fun_mk (st := s_law_wood) l_law_wood c_law_wood k_law_wood,
    b_law_wood := (fun_mk (st := s_law_wood) l_law_wood c_law_wood k_law_wood).binds (ps := ["_law_box_here", "_law_most"]) fun _ _ _ _ _ _ us hl => match us, hl with | [_, _], _ => rfl,
    a_law_makers := f_law_makers,
    d_law_makers := _,
    m_law_makers := PySem.W.mg_of X G a_law_makers,
    F_law_makers := fun_mk (st := s_law_makers) l_law_makers c_law_makers k_law_makers,
    b_law_makers := (fun_mk (st := s_law_makers) l_law_makers c_law_makers k_law_makers).binds (ps := ["_law_wood_here"]) fun _ _ _ _ _ _ us hl => match us, hl with | [_], _ => rfl,
    a_law_shared := f_law_shared,
    d_law_shared := _,
    m_law_shared := PySem.W.mg_of X G a_law_shared,
    F_law_shared := fun_mk (st := s_law_shared) l_law_shared c_law_shared k_law_shared,
    b_law_shared := (fun_mk (st := s_law_shared) l_law_shared c_law_shared k_law_shared).binds (ps := ["_law_one", "_law_other"]) fun _ _ _ _ _ _ us hl => match us, hl with | [_, _], _ => rfl,
    a_law_fraction := f_law_fraction,
    d_law_fraction := _,
    m_law_fraction := PySem.W.mg_of X G a_law_fraction,
    F_law_fraction := fun_mk (st := s_law_fraction) l_law_fraction c_law_fraction k_law_fraction,
    b_law_fraction := (fun_mk (st := s_law_fraction) l_law_fraction c_law_fraction k_law_fraction).binds (ps := ["_law_box_here"]) fun _ _ _ _ _ _ us hl => match us, hl with | [_], _ => rfl,
    a_law_reader := f_law_reader,
    d_law_reader := _,
    m_law_reader := PySem.W.mg_of X G a_law_reader,
    F_law_reader := fun_mk (st := s_law_reader) l_law_reader c_law_reader k_law_reader,
    b_law_reader := (fun_mk (st := s_law_reader) l_law_reader c_law_reader k_law_reader).binds (ps := ["_law_box_here", "_law_wood_here"]) fun _ _ _ _ _ _ us hl => match us, hl with | [_, _], _ => rfl,
    a_law_text_of := f_law_text_of,
    d_law_text_of := _,
    m_law_text_of := PySem.W.mg_of X G a_law_text_of,
    F_law_text_of := fun_mk (st := s_law_text_of) l_law_text_of c_law_text_of k_law_text_of,
    b_law_text_of := (fun_mk (st := s_law_text_of) l_law_text_of c_law_text_of k_law_text_of).binds (ps := ["_law_number"]) fun _ _ _ _ _ _ us hl => match us, hl with | [_], _ => rfl,
    a_law_reader_rows := f_law_reader_rows,
    d_law_reader_rows := _,
    m_law_reader_rows := PySem.W.mg_of X G a_law_reader_rows,
    F_law_reader_rows := fun_mk (st := s_law_reader_rows) l_law_reader_rows c_law_reader_rows k_law_reader_rows,
    b_law_reader_rows := (fun_mk (st := s_law_reader_rows) l_law_reader_rows c_law_reader_rows k_law_reader_rows).binds (ps := ["_law_wood_here", "_law_reader_here"]) fun _ _ _ _ _ _ us hl => match us, hl with | [_, _], _ => rfl,
    a_law_alike := f_law_alike,
    d_law_alike := _,
    m_law_alike := PySem.W.mg_of X G a_law_alike,
    F_law_alike := fun_mk (st := s_law_alike) l_law_alike c_law_alike k_law_alike,
    b_law_alike := (fun_mk (st := s_law_alike) l_law_alike c_law_alike k_law_alike).binds (ps := ["_law_found", "_law_due"]) fun _ _ _ _ _ _ us hl => match us, hl with | [_, _], _ => rfl,
    a_law_right := f_law_right,
    d_law_right := _,
    m_law_right := PySem.W.mg_of X G a_law_right,
    F_law_right := fun_mk (st := s_law_right) l_law_right c_law_right k_law_right,
    b_law_right := (fun_mk (st := s_law_right) l_law_right c_law_right k_law_right).binds (ps := ["_law_wood_here", "_law_reader_here"]) fun _ _ _ _ _ _ us hl => match us, hl with | [_, _], _ => rfl,
    a_law := f_law,
    d_law := _,
    m_law := PySem.W.mg_of X G a_law,
    F_law := fun_mk (st := s_law) l_law c_law k_law,
    b_law := (fun_mk (st := s_law) l_law c_law k_law).binds (ps := ["_law_script"]) fun _ _ _ _ _ _ us hl => match us, hl with | [_], _ => rfl,
    z_ValueError := PySem.W.mg_none_of X G zb_ValueError,
    z_ZeroDivisionError := PySem.W.mg_none_of X G zb_ZeroDivisionError,
    z_abs := PySem.W.mg_none_of X G zb_abs,
    z_all := PySem.W.mg_none_of X G zb_all,
    z_bool := PySem.W.mg_none_of X G zb_bool,
    z_dict := PySem.W.mg_none_of X G zb_dict,
    z_enumerate := PySem.W.mg_none_of X G zb_enumerate,
    z_int := PySem.W.mg_none_of X G zb_int,
    z_isinstance := PySem.W.mg_none_of X G zb_isinstance,
    z_len := PySem.W.mg_none_of X G zb_len,
    z_list := PySem.W.mg_none_of X G zb_list,
    z_max := PySem.W.mg_none_of X G zb_max,
    z_min := PySem.W.mg_none_of X G zb_min,
    z_range := PySem.W.mg_none_of X G zb_range,
    z_str := PySem.W.mg_none_of X G zb_str,
    z_tuple := PySem.W.mg_none_of X G zb_tuple,
    z_zip := PySem.W.mg_none_of X G zb_zip }, rfl, fun s v => .of_eq rfl⟩
end Lw
namespace Lw
open PySem PySem.Spec PyProof.Rows L2 Bk
theorem walk {l : PySem.W.OpenLaw} {q : Program} {loose : List Str} {XP : (Str → Option Value) → Heap → Prop} {YP : World → Heap → Prop} {d : DefRec} {K : Params → PySem.W.Frag} (hn : l.most = some 63) (hdf : d.params.defaults = [])
    (hY : ∀ (w : World) (h : Heap), YP w h → (K w.params).In h)
    (F : ∀ (w : World) (mg : Str → Option Value) (fa : Addr) (h : Heap), (K w.params).In h → h.Ns mainGlobals mg → mg d.name = some (.ref fa) →
      ∃ fd : FuncData, (∀ (s : Shared) (u : Value), BindsTo s fd ⟨[u], []⟩ [("_law_script", u)]) ∧ ∀ base : Heap, (K w.params).In base → base.Ns mainGlobals mg → FnOk l.prog w (K w.params) mg base (L2.CX l.prog w) 9 fa fd ["_law_script"] (spLaw (K w.params))) :
    PySem.W.WalkO q loose XP YP l.row.toRowW d [] (fun f vs => PySem.call f vs) :=
  L2.walk_of (n := 63) (k := 9) (x := "_law_script") (CX := fun w => L2.CX l.prog w) (sp := fun w => spLaw (K w.params)) hn (by decide) hdf ⟨rfl, by decide, by decide⟩ hY F (fun _ _ a ns hl hO hS => spLaw_of hO hS hl) fun _ _ _ _ _ z => cx_false z
theorem fin {P : Program} {w : World} {K : PySem.W.Frag} {mg : Str → Option Value} {fa f : Addr} (hmg : mg "law" = some (.ref fa)) (z : ∃ T : Txt K mg, T.a_law = f ∧ ∀ (s : Shared) (v : Value), BindsTo s T.d_law ⟨[v], []⟩ [("_law_script", v)]) :
    ∃ fd : FuncData, (∀ (s : Shared) (u : Value), BindsTo s fd ⟨[u], []⟩ [("_law_script", u)]) ∧ ∀ base : Heap, K.In base → base.Ns mainGlobals mg → FnOk P w K mg base (L2.CX P w) 9 fa fd ["_law_script"] (spLaw K) := by
  obtain ⟨T, ea, hb⟩ := z
  refine ⟨T.d_law, hb, fun base _ _ => ?_⟩
  have e := hmg.symm.trans T.m_law
  cases e
  exact ok_law T
end Lw
open PySem PySem.W PyProof.Rows
set_option maxRecDepth 100000 in
set_option maxHeartbeats 0 in
theorem PySem.Challenge.cw_boughkept_k16_readers_as_texts_holds : PySem.Challenge.rw_boughkept_k16_readers_as_texts.Holds := by
  w_on; o_law; k_head; (case hw => w_witness2)
  k_fill
  refine Lw.walk (l := PySem.Challenge.rw_boughkept_k16_readers_as_texts) rfl rfl (fun w h Y => PySem.W.kIn_of Y) ?F
  case F =>
    intro w mg fa h KX G hmg
    refine' Lw.fin hmg (Lw.mk_txt KX G ?ac_BoughError ?xl_BoughError ?xe_BoughError ?xt_BoughError ?xk_BoughError ?xi_BoughError ?xs_BoughError ?g1_BoughError ?g2_BoughError ?g3_BoughError ?g4_BoughError ?g5_BoughError ?g6_BoughError ?g7_BoughError ?h1_BoughError ?h2_BoughError ?h3_BoughError ?ac_NoText ?xl_NoText ?xe_NoText ?xt_NoText ?xk_NoText ?xi_NoText ?xs_NoText ?g1_NoText ?g2_NoText ?g3_NoText ?g4_NoText ?g5_NoText ?g6_NoText ?g7_NoText ?iI_NoText ?tI_NoText ?lI_NoText ?cI_NoText ?kI_NoText ?sa_NoText ?nf_NoText_row ?ac_NoReader ?xl_NoReader ?xe_NoReader ?xt_NoReader ?xk_NoReader ?xi_NoReader ?xs_NoReader ?g1_NoReader ?g2_NoReader ?g3_NoReader ?g4_NoReader ?g5_NoReader ?g6_NoReader ?g7_NoReader ?iI_NoReader ?tI_NoReader ?lI_NoReader ?cI_NoReader ?kI_NoReader ?sa_NoReader ?nf_NoReader_word ?nf_NoReader_maker ?ac_Nought ?xl_Nought ?xe_Nought ?xt_Nought ?xk_Nought ?xi_Nought ?xs_Nought ?g1_Nought ?g2_Nought ?g3_Nought ?g4_Nought ?g5_Nought ?g6_Nought ?g7_Nought ?iI_Nought ?tI_Nought ?lI_Nought ?cI_Nought ?kI_Nought ?vb_ValueError ?vb_ZeroDivisionError ?mc_FIGURES_fractions ?mc_MOST_FIGURES ?mc_MOST_BOXES ?mc_FIGURES_readertexts ?a_common_part ?l_common_part ?c_common_part ?k_common_part ?a_fraction_of ?l_fraction_of ?c_fraction_of ?k_fraction_of ?t_fraction_of ?a_show_fraction ?l_show_fraction ?c_show_fraction ?k_show_fraction ?a_is_figures ?l_is_figures ?c_is_figures ?k_is_figures ?a_read_fraction ?l_read_fraction ?c_read_fraction ?k_read_fraction ?a_kinds_by_name ?l_kinds_by_name ?c_kinds_by_name ?k_kinds_by_name ?a_makers_of ?l_makers_of ?c_makers_of ?k_makers_of ?a_maker_table ?l_maker_table ?c_maker_table ?k_maker_table ?a_need_readers ?l_need_readers ?c_need_readers ?k_need_readers ?t_need_readers ?a_is_fraction ?l_is_fraction ?c_is_fraction ?k_is_fraction ?a_look_term ?l_look_term ?c_look_term ?k_look_term ?a_look_reader ?l_look_reader ?c_look_reader ?k_look_reader ?a_term_text ?l_term_text ?c_term_text ?k_term_text ?a_show_reader ?l_show_reader ?c_show_reader ?k_show_reader ?a_need_readertexts ?l_need_readertexts ?c_need_readertexts ?k_need_readertexts ?a_number_in ?l_number_in ?c_number_in ?k_number_in ?a_read_term ?l_read_term ?c_read_term ?k_read_term ?a_read_sum ?l_read_sum ?c_read_sum ?k_read_sum ?a_read_reader ?l_read_reader ?c_read_reader ?k_read_reader ?a_law_box ?l_law_box ?c_law_box ?k_law_box ?a_law_take ?l_law_take ?c_law_take ?k_law_take ?a_law_names ?l_law_names ?c_law_names ?k_law_names ?a_law_wood ?l_law_wood ?c_law_wood ?k_law_wood ?a_law_makers ?l_law_makers ?c_law_makers ?k_law_makers ?a_law_shared ?l_law_shared ?c_law_shared ?k_law_shared ?a_law_fraction ?l_law_fraction ?c_law_fraction ?k_law_fraction ?a_law_reader ?l_law_reader ?c_law_reader ?k_law_reader ?a_law_text_of ?l_law_text_of ?c_law_text_of ?k_law_text_of ?a_law_reader_rows ?l_law_reader_rows ?c_law_reader_rows ?k_law_reader_rows ?a_law_alike ?l_law_alike ?c_law_alike ?k_law_alike ?a_law_right ?l_law_right ?c_law_right ?k_law_right ?a_law ?l_law ?c_law ?k_law ?zb_ValueError ?zb_ZeroDivisionError ?zb_abs ?zb_all ?zb_bool ?zb_dict ?zb_enumerate ?zb_int ?zb_isinstance ?zb_len ?zb_list ?zb_max ?zb_min ?zb_range ?zb_str ?zb_tuple ?zb_zip)
    (case ac_BoughError => k_is)
    (case xl_BoughError => k_is)
    (case xe_BoughError => k_is)
    (case xt_BoughError => k_is)
    (case xk_BoughError => k_is)
    (case xi_BoughError => k_is)
    (case xs_BoughError => k_is)
    (case g1_BoughError => k_is)
    (case g2_BoughError => k_is)
    (case g3_BoughError => k_is)
    (case g4_BoughError => k_is)
    (case g5_BoughError => k_is)
    (case g6_BoughError => k_is)
    (case g7_BoughError => k_is)
    (case h1_BoughError => k_is)
    (case h2_BoughError => k_is)
    (case h3_BoughError => k_is)
    (case ac_NoText => k_is)
    (case xl_NoText => k_is)
    (case xe_NoText => k_is)
    (case xt_NoText => k_is)
    (case xk_NoText => k_is)
    (case xi_NoText => k_is)
    (case xs_NoText => k_is)
    (case g1_NoText => k_is)
    (case g2_NoText => k_is)
    (case g3_NoText => k_is)
    (case g4_NoText => k_is)
    (case g5_NoText => k_is)
    (case g6_NoText => k_is)
    (case g7_NoText => k_is)
    (case iI_NoText => k_is)
    (case tI_NoText => k_is)
    (case lI_NoText => k_is)
    (case cI_NoText => k_is)
    (case kI_NoText => k_is)
    (case sa_NoText => k_is)
    (case nf_NoText_row => k_is)
    (case ac_NoReader => k_is)
    (case xl_NoReader => k_is)
    (case xe_NoReader => k_is)
    (case xt_NoReader => k_is)
    (case xk_NoReader => k_is)
    (case xi_NoReader => k_is)
    (case xs_NoReader => k_is)
    (case g1_NoReader => k_is)
    (case g2_NoReader => k_is)
    (case g3_NoReader => k_is)
    (case g4_NoReader => k_is)
    (case g5_NoReader => k_is)
    (case g6_NoReader => k_is)
    (case g7_NoReader => k_is)
    (case iI_NoReader => k_is)
    (case tI_NoReader => k_is)
    (case lI_NoReader => k_is)
    (case cI_NoReader => k_is)
    (case kI_NoReader => k_is)
    (case sa_NoReader => k_is)
    (case nf_NoReader_word => k_is)
    (case nf_NoReader_maker => k_is)
    (case ac_Nought => k_is)
    (case xl_Nought => k_is)
    (case xe_Nought => k_is)
    (case xt_Nought => k_is)
    (case xk_Nought => k_is)
    (case xi_Nought => k_is)
    (case xs_Nought => k_is)
    (case g1_Nought => k_is)
    (case g2_Nought => k_is)
    (case g3_Nought => k_is)
    (case g4_Nought => k_is)
    (case g5_Nought => k_is)
    (case g6_Nought => k_is)
    (case g7_Nought => k_is)
    (case iI_Nought => k_is)
    (case tI_Nought => k_is)
    (case lI_Nought => k_is)
    (case cI_Nought => k_is)
    (case kI_Nought => k_is)
    (case vb_ValueError => k_is)
    (case vb_ZeroDivisionError => k_is)
    (case mc_FIGURES_fractions => k_is)
    (case mc_MOST_FIGURES => k_is)
    (case mc_MOST_BOXES => k_is)
    (case mc_FIGURES_readertexts => k_is)
    (case a_common_part => k_is)
    (case l_common_part => k_is)
    (case c_common_part => k_is)
    (case k_common_part => k_is)
    (case a_fraction_of => k_is)
    (case l_fraction_of => k_is)
    (case c_fraction_of => k_is)
    (case k_fraction_of => k_is)
    (case t_fraction_of => k_is)
    (case a_show_fraction => k_is)
    (case l_show_fraction => k_is)
    (case c_show_fraction => k_is)
    (case k_show_fraction => k_is)
    (case a_is_figures => k_is)
    (case l_is_figures => k_is)
    (case c_is_figures => k_is)
    (case k_is_figures => k_is)
    (case a_read_fraction => k_is)
    (case l_read_fraction => k_is)
    (case c_read_fraction => k_is)
    (case k_read_fraction => k_is)
    (case a_kinds_by_name => k_is)
    (case l_kinds_by_name => k_is)
    (case c_kinds_by_name => k_is)
    (case k_kinds_by_name => k_is)
    (case a_makers_of => k_is)
    (case l_makers_of => k_is)
    (case c_makers_of => k_is)
    (case k_makers_of => k_is)
    (case a_maker_table => k_is)
    (case l_maker_table => k_is)
    (case c_maker_table => k_is)
    (case k_maker_table => k_is)
    (case a_need_readers => k_is)
    (case l_need_readers => k_is)
    (case c_need_readers => k_is)
    (case k_need_readers => k_is)
    (case t_need_readers => k_is)
    (case a_is_fraction => k_is)
    (case l_is_fraction => k_is)
    (case c_is_fraction => k_is)
    (case k_is_fraction => k_is)
    (case a_look_term => k_is)
    (case l_look_term => k_is)
    (case c_look_term => k_is)
    (case k_look_term => k_is)
    (case a_look_reader => k_is)
    (case l_look_reader => k_is)
    (case c_look_reader => k_is)
    (case k_look_reader => k_is)
    (case a_term_text => k_is)
    (case l_term_text => k_is)
    (case c_term_text => k_is)
    (case k_term_text => k_is)
    (case a_show_reader => k_is)
    (case l_show_reader => k_is)
    (case c_show_reader => k_is)
    (case k_show_reader => k_is)
    (case a_need_readertexts => k_is)
    (case l_need_readertexts => k_is)
    (case c_need_readertexts => k_is)
    (case k_need_readertexts => k_is)
    (case a_number_in => k_is)
    (case l_number_in => k_is)
    (case c_number_in => k_is)
    (case k_number_in => k_is)
    (case a_read_term => k_is)
    (case l_read_term => k_is)
    (case c_read_term => k_is)
    (case k_read_term => k_is)
    (case a_read_sum => k_is)
    (case l_read_sum => k_is)
    (case c_read_sum => k_is)
    (case k_read_sum => k_is)
    (case a_read_reader => k_is)
    (case l_read_reader => k_is)
    (case c_read_reader => k_is)
    (case k_read_reader => k_is)
    (case a_law_box => k_is)
    (case l_law_box => k_is)
    (case c_law_box => k_is)
    (case k_law_box => k_is)
    (case a_law_take => k_is)
    (case l_law_take => k_is)
    (case c_law_take => k_is)
    (case k_law_take => k_is)
    (case a_law_names => k_is)
    (case l_law_names => k_is)
    (case c_law_names => k_is)
    (case k_law_names => k_is)
    (case a_law_wood => k_is)
    (case l_law_wood => k_is)
    (case c_law_wood => k_is)
    (case k_law_wood => k_is)
    (case a_law_makers => k_is)
    (case l_law_makers => k_is)
    (case c_law_makers => k_is)
    (case k_law_makers => k_is)
    (case a_law_shared => k_is)
    (case l_law_shared => k_is)
    (case c_law_shared => k_is)
    (case k_law_shared => k_is)
    (case a_law_fraction => k_is)
    (case l_law_fraction => k_is)
    (case c_law_fraction => k_is)
    (case k_law_fraction => k_is)
    (case a_law_reader => k_is)
    (case l_law_reader => k_is)
    (case c_law_reader => k_is)
    (case k_law_reader => k_is)
    (case a_law_text_of => k_is)
    (case l_law_text_of => k_is)
    (case c_law_text_of => k_is)
    (case k_law_text_of => k_is)
    (case a_law_reader_rows => k_is)
    (case l_law_reader_rows => k_is)
    (case c_law_reader_rows => k_is)
    (case k_law_reader_rows => k_is)
    (case a_law_alike => k_is)
    (case l_law_alike => k_is)
    (case c_law_alike => k_is)
    (case k_law_alike => k_is)
    (case a_law_right => k_is)
    (case l_law_right => k_is)
    (case c_law_right => k_is)
    (case k_law_right => k_is)
    (case a_law => k_is)
    (case l_law => k_is)
    (case c_law => k_is)
    (case k_law => k_is)
    (case zb_ValueError => k_is)
    (case zb_ZeroDivisionError => k_is)
    (case zb_abs => k_is)
    (case zb_all => k_is)
    (case zb_bool => k_is)
    (case zb_dict => k_is)
    (case zb_enumerate => k_is)
    (case zb_int => k_is)
    (case zb_isinstance => k_is)
    (case zb_len => k_is)
    (case zb_list => k_is)
    (case zb_max => k_is)
    (case zb_min => k_is)
    (case zb_range => k_is)
    (case zb_str => k_is)
    (case zb_tuple => k_is)
    (case zb_zip => k_is)
#print axioms PySem.Challenge.cw_boughkept_k16_readers_as_texts_holds
