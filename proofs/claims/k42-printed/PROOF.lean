import PyProof.Rows.All
import Wide.All
import OpenK.AllK
import Wide.FinOn
import HandS.ForMost
import HandS.ForExc
import HandS.Wide
import HandS.IsInst
import HandS.ExcIs
import HandS.ExcInit
import HandS.Flow
import HandS.Zip
import HandS.TupAny
import HandS.TupLe
import HandS.ListItems
import HandS.Defaults
import HandS.Text
import HandS.SetKeys
import HandS.ExcField
import HandS.StrMore
import HandS.Walk
import HandS.Codes
import KE.KDictZip
import KE.KDictItemsList
import HandS.Iter
import KE.GoesMore
import HandS.TupMul
import HandS.More
import KE.KExcIs
import PyProof.StrOps2
import PyProof.FactsAll.tuple_2
import KE.GoesEnumKw
import HandS.Replace
import PyProof.ToksMono
import HandS.MakeKw
import HandS.Rev
import KE.KDictZip
import KE.KDictPairs
import PySem.Challenge.RW_boughkept_k42_printed
set_option pp.maxSteps 1200
set_option Elab.async false
set_option linter.all false
set_option maxRecDepth 100000
set_option maxHeartbeats 4000000
set_option Elab.async false
set_option linter.all false
set_option maxRecDepth 100000
set_option maxHeartbeats 4000000
/-! Bk1: readings that compute by themselves, over the hand layer. -/
namespace Bk
open PySem PySem.Spec PyProof.Rows L2

/-! ### heaps: what is kept -/
/-- every tracked object stands as it stood -/
def Ex (H H' : Hp) : Prop := ∀ a o, H a = some o → H' a = some o
/-- .. but what stands at l -/
def But (l : Addr) (H H' : Hp) : Prop := ∀ a o, a ≠ l → H a = some o → H' a = some o
/-- the tuples stand -/
def Tk (H H' : Hp) : Prop := ∀ a xs, H a = some (.tup xs) → H' a = some (.tup xs)
theorem Ex.refl (H : Hp) : Ex H H := fun _ _ h => h
theorem Ex.trans {H H1 H2 : Hp} (a : Ex H H1) (b : Ex H1 H2) : Ex H H2 := fun x o h => b x o (a x o h)
theorem Ex.new {H : Hp} {p : Addr} {o : HO} (h : H p = none) : Ex H (upd H p o) := fun a u e => by
  rw [upd_ne (ne_of_none e h)]
  exact e
theorem Ex.at_new {H H' : Hp} {p : Addr} {o : HO} (x : Ex H H') (h : H p = none) : Ex H (upd H' p o) := fun a u e => by
  rw [upd_ne (ne_of_none e h)]
  exact x a u e
theorem Ex.free {H H' : Hp} {p : Addr} (e : Ex H H') (h : H' p = none) : H p = none := by
  cases q : H p with
  | none => rfl
  | some o => rw [e p o q] at h; cases h
theorem Ex.but {H H' : Hp} (l : Addr) (e : Ex H H') : But l H H' := fun a o _ h => e a o h
theorem Ex.of_but {H H' : Hp} {l : Addr} (e : But l H H') (h : H l = none) : Ex H H' := fun a o q => e a o (ne_of_none q h) q
theorem But.refl (l : Addr) (H : Hp) : But l H H := fun _ _ _ h => h
theorem But.trans {l : Addr} {H H1 H2 : Hp} (a : But l H H1) (b : But l H1 H2) : But l H H2 := fun x o n h => b x o n (a x o n h)
theorem But.upd {l : Addr} {H H' : Hp} {o : HO} (a : But l H H') : But l H (upd H' l o) := fun x u n h => by
  rw [upd_ne n]
  exact a x u n h
theorem But.get {l a : Addr} {H H' : Hp} {o u : HO} (b : But l H H') (hl : H l = some u) (h : H a = some o) (d : o ≠ u) : H' a = some o := b a o (ne_of h hl d) h
theorem Ex.tk {H H' : Hp} (e : Ex H H') : Tk H H' := fun a xs h => e a _ h
theorem But.tk {l : Addr} {H H' : Hp} {u : HO} (b : But l H H') (hl : H l = some u) (d : ∀ xs, HO.tup xs ≠ u) : Tk H H' := fun a xs h => b.get hl h (d xs)
theorem But.tkl {l : Addr} {H H' : Hp} {ys : List V} (b : But l H H') (hl : H l = some (.lst ys)) : Tk H H' := b.tk hl fun _ z => nomatch z
theorem Tk.refl (H : Hp) : Tk H H := fun _ _ h => h
theorem Tk.trans {H H1 H2 : Hp} (a : Tk H H1) (b : Tk H1 H2) : Tk H H2 := fun x o h => b x o (a x o h)
theorem sqL {K : PySem.W.Frag} {H : Hp} {a : Addr} {xs : List V} (h : H a = some (.lst xs)) : SqL K H a xs := .inl (.inl h)
theorem sqT {K : PySem.W.Frag} {H : Hp} {a : Addr} {xs : List V} (h : H a = some (.tup xs)) : SqT K H a xs := .inl (.inl h)
theorem Ex.seqL {K : PySem.W.Frag} {H H' : Hp} {a : Addr} {xs : List V} (e : Ex H H') (h : SqL K H a xs) : SqL K H' a xs := by
  rcases h with (h | ⟨o, h⟩) | h
  · exact .inl (.inl (e _ _ h))
  · exact .inl (.inr ⟨o, e _ _ h⟩)
  · exact .inr h
theorem But.seqL {K : PySem.W.Frag} {l : Addr} {H H' : Hp} {a : Addr} {xs : List V} (e : But l H H') (n : a ≠ l) (h : SqL K H a xs) : SqL K H' a xs := by
  rcases h with (h | ⟨o, h⟩) | h
  · exact .inl (.inl (e _ _ n h))
  · exact .inl (.inr ⟨o, e _ _ n h⟩)
  · exact .inr h

/-! ### data: what a value stands for -/
inductive D where
  | non | bl (b : Bool) | int (i : Int) | str (s : Str) | tup (ds : List D) | lst (ds : List D)
mutual
def Rep (H : Hp) : D → V → Prop
  | .non, v => v = .non
  | .bl b, v => v = .bl b
  | .int i, v => v = .int i
  | .str s, v => v = .str s
  | .tup ds, v => ∃ a vs, v = .ref a ∧ H a = some (.tup vs) ∧ Reps H ds vs
  | .lst ds, v => ∃ a vs, v = .ref a ∧ H a = some (.lst vs) ∧ Reps H ds vs
def Reps (H : Hp) : List D → List V → Prop
  | [], vs => vs = []
  | d :: ds, vs => ∃ v r, vs = v :: r ∧ Rep H d v ∧ Reps H ds r
end
mutual
/-- tuples and flat things alone -/
def D.hard : D → Bool
  | .lst _ => false
  | .tup ds => D.hards ds
  | .non => true | .bl _ => true | .int _ => true | .str _ => true
def D.hards : List D → Bool
  | [] => true
  | d :: ds => d.hard && D.hards ds
end
mutual
def D.size : D → Nat
  | .tup ds => 1 + D.sizes ds
  | .lst ds => 1 + D.sizes ds
  | .non => 1 | .bl _ => 1 | .int _ => 1 | .str _ => 1
def D.sizes : List D → Nat
  | [] => 0
  | d :: ds => d.size + D.sizes ds
end
theorem D.size_pos (d : D) : 1 ≤ d.size := by cases d <;> simp only [D.size] <;> omega
mutual
theorem Rep.ex {H H' : Hp} (e : Ex H H') : ∀ {d : D} {v : V}, Rep H d v → Rep H' d v
  | .non, _, h => h
  | .bl _, _, h => h
  | .int _, _, h => h
  | .str _, _, h => h
  | .tup ds, _, h => by
    simp only [Rep] at h ⊢
    obtain ⟨a, vs, r, ha, hr⟩ := h
    exact ⟨a, vs, r, e _ _ ha, Reps.ex e hr⟩
  | .lst ds, _, h => by
    simp only [Rep] at h ⊢
    obtain ⟨a, vs, r, ha, hr⟩ := h
    exact ⟨a, vs, r, e _ _ ha, Reps.ex e hr⟩
theorem Reps.ex {H H' : Hp} (e : Ex H H') : ∀ {ds : List D} {vs : List V}, Reps H ds vs → Reps H' ds vs
  | [], _, h => h
  | d :: ds, _, h => by
    simp only [Reps] at h ⊢
    obtain ⟨v, r, x, h1, h2⟩ := h
    exact ⟨v, r, x, Rep.ex e h1, Reps.ex e h2⟩
end
mutual
theorem Rep.tk {H H' : Hp} (e : Tk H H') : ∀ {d : D} {v : V}, d.hard = true → Rep H d v → Rep H' d v
  | .non, _, _, h => h
  | .bl _, _, _, h => h
  | .int _, _, _, h => h
  | .str _, _, _, h => h
  | .lst _, _, z, _ => by simp [D.hard] at z
  | .tup ds, _, z, h => by
    simp only [D.hard] at z
    simp only [Rep] at h ⊢
    obtain ⟨a, vs, r, ha, hr⟩ := h
    exact ⟨a, vs, r, e _ _ ha, Reps.tk e z hr⟩
theorem Reps.tk {H H' : Hp} (e : Tk H H') : ∀ {ds : List D} {vs : List V}, D.hards ds = true → Reps H ds vs → Reps H' ds vs
  | [], _, _, h => h
  | d :: ds, _, z, h => by
    simp only [D.hards, Bool.and_eq_true] at z
    simp only [Reps] at h ⊢
    obtain ⟨v, r, x, h1, h2⟩ := h
    exact ⟨v, r, x, Rep.tk e z.1 h1, Reps.tk e z.2 h2⟩
end
theorem Reps.len {H : Hp} : ∀ {ds : List D} {vs : List V}, Reps H ds vs → vs.length = ds.length
  | [], _, h => by simp only [Reps] at h; rw [h]; rfl
  | d :: ds, _, h => by
    simp only [Reps] at h
    obtain ⟨v, r, x, _, h2⟩ := h
    rw [x, List.length_cons, List.length_cons, Reps.len h2]
theorem Reps.get {H : Hp} : ∀ {ds : List D} {vs : List V} {i : Nat} {v : V}, Reps H ds vs → vs[i]? = some v → ∃ d, ds[i]? = some d ∧ Rep H d v
  | [], _, i, v, h, e => by simp only [Reps] at h; rw [h] at e; simp at e
  | d :: ds, _, 0, v, h, e => by
    simp only [Reps] at h
    obtain ⟨u, r, x, h1, _⟩ := h
    rw [x] at e
    simp at e
    exact ⟨d, rfl, e ▸ h1⟩
  | d :: ds, _, i + 1, v, h, e => by
    simp only [Reps] at h
    obtain ⟨u, r, x, _, h2⟩ := h
    rw [x] at e
    obtain ⟨d', e', r'⟩ := Reps.get (i := i) h2 (by simpa using e)
    exact ⟨d', by simpa using e', r'⟩
theorem Reps.at {H : Hp} : ∀ {ds : List D} {vs : List V} {i : Nat} {d : D}, Reps H ds vs → ds[i]? = some d → ∃ v, vs[i]? = some v ∧ Rep H d v
  | [], _, i, d, h, e => by simp at e
  | d :: ds, _, 0, d', h, e => by
    simp only [Reps] at h
    obtain ⟨u, r, x, h1, _⟩ := h
    simp at e
    exact ⟨u, by rw [x]; rfl, e ▸ h1⟩
  | d :: ds, _, i + 1, d', h, e => by
    simp only [Reps] at h
    obtain ⟨u, r, x, _, h2⟩ := h
    obtain ⟨v', e', r'⟩ := Reps.at (i := i) h2 (by simpa using e)
    exact ⟨v', by rw [x]; simpa using e', r'⟩
theorem Reps.append {H : Hp} : ∀ {ds es : List D} {vs ws : List V}, Reps H ds vs → Reps H es ws → Reps H (ds ++ es) (vs ++ ws)
  | [], _, _, _, h, g => by simp only [Reps] at h; rw [h]; exact g
  | d :: ds, es, _, ws, h, g => by
    simp only [Reps] at h
    obtain ⟨v, r, x, h1, h2⟩ := h
    rw [x]
    simp only [List.cons_append, Reps]
    exact ⟨v, r ++ ws, rfl, h1, Reps.append h2 g⟩

/-! ### weaker readings -/
section
variable {X : Cx}
theorem pe_imp {e : Expr} {t t' : TE} (h : PE X e t) (w : ∀ σ H Q, t' σ H Q → t σ H Q) : PE X e t' := ⟨fun pins s σ H Q I q => h.run pins s σ H Q I (w σ H Q q)⟩
theorem pt_imp {e : Expr} {t t' : TT} (h : PT X e t) (w : ∀ σ H Q, t' σ H Q → t σ H Q) : PT X e t' := ⟨fun pins s σ H Q I q => h.run pins s σ H Q I (w σ H Q q)⟩
theorem pw_imp {e : Expr} {t t' : TT} (h : PW X e t) (w : ∀ σ H Q, t' σ H Q → t σ H Q) : PW X e t' := ⟨fun wh pins s σ H Q I q => h.run wh pins s σ H Q I (w σ H Q q)⟩
theorem ps_imp {e : Stmt} {t t' : TS} (h : PS X e t) (w : ∀ D σ H, t' D σ H → t D σ H) : PS X e t' := ⟨fun pins s σ H D I q => h.run pins s σ H D I (w D σ H q)⟩
theorem pi_imp {tg e : Expr} {t t' : TI} (h : PI X tg e t) (w : ∀ σ H R, t' σ H R → t σ H R) : PI X tg e t' := ⟨fun pins s σ H R I q => h.run pins s σ H R I (w σ H R q)⟩
theorem pi_or {tg e : Expr} {t t' : TI} (h : PI X tg e t) (h' : PI X tg e t') : PI X tg e (fun σ H R => t σ H R ∨ t' σ H R) := ⟨fun pins s σ H R I q => by
  rcases q with q | q
  · exact h.run pins s σ H R I q
  · exact h'.run pins s σ H R I q⟩
theorem pe_or {e : Expr} {t t' : TE} (h : PE X e t) (h' : PE X e t') : PE X e (fun σ H R => t σ H R ∨ t' σ H R) := ⟨fun pins s σ H R I q => by
  rcases q with q | q
  · exact h.run pins s σ H R I q
  · exact h'.run pins s σ H R I q⟩

/-- the name that stands in the i-th slot -/
def uV (i : Nat) : TE := fun σ H Q => match σ[i]? with
  | some (some v) => Q v H
  | _ => False
theorem uv (i : Nat) {x : Str} {pos : Pos} (hN : X.N[i]? = some x := by rfl) (hv : Vis X.env.scope x := by first | exact Or.inl rfl | exact Or.inr (Or.inl rfl) | exact Or.inr (Or.inr rfl))
    (hd : (x == ("__debug__" : Str)) = false := by decide) (hcd : (x == ("__classdict__" : Str)) = false := by decide) : PE X (.Name x pos) (uV i) :=
  pe_imp (pv i hN hv hd hcd) fun σ H Q h => by
    unfold uV at h
    split at h
    · exact ⟨_, by assumption, h⟩
    · exact h.elim
theorem g_var {σ : L2.St} {i : Nat} {v : V} {H : Hp} {Q : VK} (e : σ[i]? = some (some v)) (q : Q v H) : uV i σ H Q := by
  unfold uV
  rw [e]
  exact q

/-- a value's truth -/
def uTru (K : PySem.W.Frag) (x : V) (H : Hp) (Q : Bool → Hp → Prop) : Prop := match x with
  | .bl k => Q k H
  | .int i => Q (i != 0) H
  | .non => Q false H
  | .str y => y.length ≤ sizeLine ∧ Q ((y.length : Int) != 0) H
  | .ref p => ∃ k, TruV K (.ref p) H k ∧ Q k H
  | _ => False
theorem uTru_of {K : PySem.W.Frag} {x : V} {H : Hp} {Q : Bool → Hp → Prop} (h : uTru K x H Q) : ∃ k, TruV K x H k ∧ Q k H := by
  unfold uTru at h
  split at h
  · exact ⟨_, rfl, h⟩
  · exact ⟨_, rfl, h⟩
  · exact ⟨_, rfl, h⟩
  · exact ⟨_, ⟨h.1, rfl⟩, h.2⟩
  · exact h
  · exact h.elim
/-- a value as a test -/
def uT (K : PySem.W.Frag) (te : TE) : TT := fun σ H Q => te σ H fun x H1 => uTru K x H1 Q
theorem ut {e : Expr} {te : TE} (h : PE X e te) (he : ∀ whole, isTrue e X.env whole = (do let v ← whole; standAt e.pos; holding [v] (truthy v)) := by intro _; rfl) : PT X e (uT X.K te) := by
  refine ⟨fun pins s σ H Q I q => ?_⟩
  refine isTrue_plain (thn (h.run pins s σ H _ I q) fun v s1 z => ?_) (he _)
  obtain ⟨x, H1, I1, r1, q1⟩ := z
  exact tru_ok pins s1 σ H1 x v Q I1 r1 (uTru_of q1)

/-! ### operators -/
def uAdd (K : PySem.W.Frag) : R2 := fun x y H Q => match x, y with
  | .int i, .int j => Q (.int (i + j)) H
  | .str a, .str b => a.length + b.length ≤ sizeLine ∧ Q (.str (a ++ b)) H
  | .ref p, .ref q => rCat (.ref p) (.ref q) H Q ∨ rCatA K (.ref p) (.ref q) H Q
  | _, _ => False
theorem uo_add : OpR X (binaryOp .Add) (uAdd X.K) := by
  intro pins s σ H x y v u Q I rx ry h
  unfold uAdd at h
  split at h
  · exact op_add pins s σ H _ _ v u Q I rx ry ⟨_, _, rfl, rfl, h⟩
  · exact op_add_str pins s σ H _ _ v u Q I rx ry ⟨_, _, rfl, rfl, h⟩
  · rcases h with h | h
    · exact op_cat pins s σ H _ _ v u Q I rx ry h
    · exact op_catA pins s σ H _ _ v u Q I rx ry h
  · exact h.elim
/-- two ints in -/
def uI (C : Int → Int → Prop) (g : Int → Int → V) : R2 := fun x y H Q => match x, y with
  | .int i, .int j => C i j ∧ Q (g i j) H
  | _, _ => False
def uI0 (g : Int → Int → V) : R2 := fun x y H Q => match x, y with
  | .int i, .int j => Q (g i j) H
  | _, _ => False
theorem ui_of {f : Value → Value → Sem Value} {C : Int → Int → Prop} {g : Int → Int → V} (h : OpR X f (rI C g)) : OpR X f (uI C g) := by
  intro pins s σ H x y v u Q I rx ry q
  unfold uI at q
  split at q
  · exact h pins s σ H _ _ v u Q I rx ry ⟨_, _, rfl, rfl, q.1, q.2⟩
  · exact q.elim
theorem ui0_of {f : Value → Value → Sem Value} {g : Int → Int → V} (h : OpR X f (rI0 g)) : OpR X f (uI0 g) := by
  intro pins s σ H x y v u Q I rx ry q
  unfold uI0 at q
  split at q
  · exact h pins s σ H _ _ v u Q I rx ry ⟨_, _, rfl, rfl, q⟩
  · exact q.elim
abbrev uSub : R2 := uI0 fun i j => .int (i - j)
theorem uo_sub : OpR X (binaryOp .Sub) uSub := ui0_of op_sub
def CMm (i j : Int) : Prop := CMul i j ∨ CMulW i j
abbrev uMul : R2 := uI CMm fun i j => .int (i * j)
theorem uo_mul : OpR X (binaryOp .Mult) uMul := by
  refine ui_of (opI fun _ _ _ _ _ _ _ hc q => ?_)
  rcases hc with hc | hc
  · exact mul_int q hc.ok
  · exact mul_int q hc.ok
theorem mulL {i j : Int} (h : i.natAbs.log2 < 1000) (h2 : j.natAbs.log2 < 900000) : CMulW i j := by
  show _ < _
  omega
/-- // by anything but nought below 2 ^ 9000 -/
def CFd (_ j : Int) : Prop := j ≠ 0 ∧ j.natAbs.log2 < 9000
theorem op_fd : OpR X (binaryOp .FloorDiv) (rI CFd fun i j => .int (i.fdiv j)) := opI fun i j _ _ _ _ _ hc q => floordiv_int hc.1 q (.inl (PyProof.noPylong_of_log2 hc.2))
abbrev uFd : R2 := uI CFd fun i j => .int (i.fdiv j)
theorem uo_fd : OpR X (binaryOp .FloorDiv) uFd := ui_of op_fd
abbrev uMod : R2 := uI (fun _ j => j ≠ 0) fun i j => .int (i.fmod j)
theorem uo_mod : OpR X (binaryOp .Mod) uMod := ui_of op_modN
abbrev uPow : R2 := uI CPow fun i j => .int (i ^ j.toNat)
theorem uo_pow : OpR X (binaryOp .Pow) uPow := ui_of op_pow
abbrev uLt : R2 := uI0 fun i j => .bl (decide (i < j))
theorem uo_lt : OpR X (compareOp .Lt) uLt := ui0_of op_lt
abbrev uLe : R2 := uI0 fun i j => .bl (decide (i ≤ j))
theorem uo_le : OpR X (compareOp .LtE) uLe := ui0_of op_le
abbrev uGt : R2 := uI0 fun i j => .bl (decide (j < i))
theorem uo_gt : OpR X (compareOp .Gt) uGt := ui0_of op_gt
abbrev uGe : R2 := uI0 fun i j => .bl (decide (j ≤ i))
theorem uo_ge : OpR X (compareOp .GtE) uGe := ui0_of op_ge
def uNeg : V → Hp → VK → Prop := fun x H Q => match x with
  | .int i => Q (.int (-i)) H
  | _ => False
theorem uu_neg : UnR X (unaryOp .USub) uNeg := by
  intro pins s σ H x v Q I rx q
  unfold uNeg at q
  split at q
  · exact un_neg pins s σ H _ v Q I rx ⟨_, rfl, q⟩
  · exact q.elim
/-- x is None, x is not None (y is the None) -/
def uIsN : R2 := fun x y H Q => y = .non ∧ Q (.bl (decide (x = .non))) H
def uNotN : R2 := fun x y H Q => y = .non ∧ Q (.bl (!decide (x = .non))) H
theorem uo_isN : OpR X (compareOp .Is) uIsN := op_isN
theorem uo_notN : OpR X (compareOp .IsNot) uNotN := op_notN

/-! ### len, subscripts -/
def LenR (K : PySem.W.Frag) (H : Hp) (p : Addr) (n : Nat) : Prop := (∃ ys, (SqL K H p ys ∨ SqT K H p ys) ∧ n = ys.length) ∨ ∃ kvs, H p = some (.dK kvs) ∧ n = kvs.length
def uLen (K : PySem.W.Frag) : List V → Hp → VK → Prop := fun xs H Q => match xs with
  | [.str z] => z.length ≤ sizeLine ∧ Q (.int z.length) H
  | [.ref p] => ∃ n : Nat, LenR K H p n ∧ Q (.int n) H
  | _ => False
theorem uk_len : CallR X (.builtin "len") (uLen X.K) := by
  intro pins s σ H xs us Q I r h
  unfold uLen at h
  split at h
  · exact call_len_str pins s σ H _ us Q I r ⟨_, rfl, h.1, h.2⟩
  · obtain ⟨n, h, q⟩ := h
    rcases h with ⟨ys, h, e⟩ | ⟨kvs, h, e⟩
    · subst e
      exact call_len_seq pins s σ H _ us Q I r ⟨_, _, rfl, h, q⟩
    · subst e
      exact call_lenD pins s σ H _ us Q I r ⟨_, _, rfl, h, q⟩
  · exact h.elim
def uIx (K : PySem.W.Frag) : R2 := fun x y H Q => match x, y with
  | .ref p, .int i => ∃ xs v, (SqL K H p xs ∨ SqT K H p xs) ∧ atI xs i = some v ∧ Q v H
  | .str z, .int i => z.length ≤ sizeLine ∧ ∃ c, atI z.cps.toList i = some c ∧ Q (.str ⟨#[c]⟩) H
  | _, _ => False
theorem ux_seq : IxR X (uIx X.K) := by
  intro value slice pins s σ H x y v u Q I rx ry q hs
  unfold uIx at q
  split at q
  · obtain ⟨xs, w, hq, a, q⟩ := q
    refine ix_seq value slice pins s σ H _ _ v u Q I rx ry ?_ hs
    rcases hq with hq | hq
    · exact .inl ⟨_, xs, _, w, rfl, rfl, hq, a, q⟩
    · exact .inr (.inl ⟨_, xs, _, w, rfl, rfl, hq, a, q⟩)
  · obtain ⟨z, c, a, q⟩ := q
    exact ix_seq value slice pins s σ H _ _ v u Q I rx ry (.inr (.inr ⟨_, _, c, rfl, rfl, z, a, q⟩)) hs
  · exact q.elim

/-! ### what a for walks: a list or a tuple -/
def uSeq (K : PySem.W.Frag) (td : TE) : TI := fun σ H R => iList K td σ H R ∨ iTup K td σ H R ∨ iStr td σ H R
theorem ui_seq {tg e : Expr} {td : TE} (h : PE X e td) : PI X tg e (uSeq X.K td) := pi_or (pi_list h) (pi_or (pi_tup h) (pi_str h))
end
end Bk

set_option Elab.async false
set_option linter.all false
set_option maxRecDepth 100000
set_option maxHeartbeats 4000000
/-! Bk2: own errors over any built-in base, made by their own __init__. -/
namespace Bk
open PySem PySem.Spec PyProof.Rows L2
/-- what the written part says of an own error's class: newId, bmB of its built-in base -/
structure OexB (K : PySem.W.Frag) (C : Addr) (newId : String) (bmB : List Value) : Prop where
  cls : ∃ nm q N bs bm sn sub ab col dd k0 k1 k2 k3 k5, K.lookup C = some (excClassObj nm q C N bs bm true sn sub ab col dd k0 k1 k2 k3 k5 newId) ∧ ∀ Y : String, bm.contains (.type Y) = bmB.contains (.type Y)
  exC : PySem.W.subIn K (.ref C) (.type "BaseException") = some true
  tyC : PySem.W.typeIn K (.ref C) = some (.type "type")
  kC : PySem.W.keepIn K (.ref C) = true
section
variable {X : Cx} {pins : List (Addr × Obj)} {σ : L2.St} {H : Hp} {s : Shared} {a C : Addr} {B newId initId : String} {bmB : List Value}
/-- B.__init__(self, ..) over an error that has no dict as yet -/
theorem ginit_ok {A : Around} {E : Value → Shared → Prop} {us : List Value} {Q : Value → Shared → Prop} (F : ExcBaseFacts B newId initId bmB) (T : OexB X.K C newId bmB) (I : Inv X pins σ H s) (e : H a = some (exo a C none)) (hl : us.length ≤ sizeLine)
    (h : ∀ s', Inv X pins σ H s' → Q .none s') : wpAny (model X.prog X.w) A (call (.builtin initId) (.ref a :: us)) Q E s := by
  obtain ⟨nm, q, N, bs, bm, sn, sub, ab, col, dd, k0, k1, k2, k3, k5, hC, hT⟩ := T.cls
  obtain ⟨t1, ho⟩ := exo_at I.hok e
  obtain ⟨hp, g, d, t, os⟩ := s
  refine wpAny_call (PySem.HandSPX.init_base F hT (I.kIn _ _ hC) ho hl fun h' t2 k hx => ?_)
  have J := I.write (t' := t) (x := a) (e := a) (o := exo a C none) (by rw [e]; exact True.intro) (.inl rfl) k ⟨_, hx⟩ (exo_ok hx)
  have eu : upd H a (exo a C none) = H := funext fun b => by
    by_cases hb : b = a
    · rw [hb, upd_same, e]
    · rw [upd_ne hb]
  rw [eu] at J
  exact h _ J
/-- T.__init__(self, ..), T a built-in class of errors, or an own one that has it from there -/
def uXIk (K : PySem.W.Frag) (newId : String) (bmB : List Value) : List V → Hp → VK → Prop := fun vs H1 Q => match vs with
  | .ref a :: ws => ∃ C, ws.length ≤ 1000 ∧ OexB K C newId bmB ∧ H1 a = some (exo a C none) ∧ Q .non H1
  | _ => False
def uXI (K : PySem.W.Frag) (newId : String) (bmB : List Value) (ta : TA) : TE := fun σ H Q => ta σ H fun vs H1 => uXIk K newId bmB vs H1 Q
theorem uXI_end {F0 : ExcBaseFacts B newId initId bmB} {us : List Value} {vs : List V} {Q : VK} (I : Inv X pins σ H s) (r : Vals vs us)
    (h : uXIk X.K newId bmB vs H Q) :
    wpAny (model X.prog X.w) X.A (call (.builtin initId) us) (EP X pins σ Q) X.xe s := by
  unfold uXIk at h
  split at h
  · obtain ⟨C, hl, T, ea, q⟩ := h
    cases r with
    | @cons _ u0 _ ur ra rw' =>
      obtain rfl : u0 = Value.ref _ := ra
      have hlen : ur.length ≤ sizeLine := by
        rw [← Paired.length rw', sizeLine_eq]
        omega
      exact ginit_ok F0 T I ea hlen fun s' J => ⟨.non, H, J, rfl, q⟩
  · exact h.elim
variable {e : Expr} {es : List Expr} {ta : TA} {p1 p2 pos : Pos} {x : Str}
theorem pe_xinitB {T : String} {pl : Sem Bool} (F : ExcBaseFacts B newId initId bmB) (ty : typeOf (.type T) = pure (.type "type")) (ns : Manifest.isStub T = false) (hg : Gl X x) (hm : X.mg x = none) (hv : bootBuiltins x = some (.type T))
    (vV : PySem.W.findCls X.K (.type T) (.type "type") "__init__" = some (.val (.builtin initId))) (hh : PySem.W.handedIn (.builtin initId) = true) (ha : PA X (e :: es) ta) (hn : x ≠ "__name__" := by decide) (hd : (x == ("__debug__" : Str)) = false := by decide)
    (hc : eval (.Call (.Attribute (.Name x p1) "__init__" p2) (e :: es) [] pos) X.env = (do
      let ov ← eval (.Name x p1) X.env
      standAt p2.atName
      let (f, first) ← holding [ov] (getMethod ov "__init__" pl)
      callWith pos f first (backTo pos (starEach (e :: es) X.env)) (backToKw pos (keywordEach [] X.env))) := by rfl)
    (he : starEach (e :: es) X.env = (false, eval e X.env) :: starEach es X.env := by rfl) (hpl : (backTo pos (starEach es X.env)).any (·.1) = false := by rfl) :
    PE X (.Call (.Attribute (.Name x p1) "__init__" p2) (e :: es) [] pos) (uXI X.K newId bmB ta) := by
  refine ⟨fun pins s σ H Q I h => ?_⟩
  refine PySem.W.methodCall_KW (ld_blt I hg hm hv ?_ hn hd) hc
  obtain ⟨m, fr⟩ := I.fr
  refine PySem.W.method_type fr I.ok.mod.kin ty ns vV hh ?_
  show wpAny _ _ (callWith pos (Value.builtin initId) [] (backTo pos (starEach (e :: es) X.env)) []) _ _ _
  refine PyProof.Rows.callWith_method1 (thn (ha.run pos pins _ σ H _ (I.tok _) h) fun us s1 z => ?_) he hpl
  obtain ⟨vs, H1, I1, r1, q⟩ := z
  exact uXI_end (F0 := F) I1 r1 q
/-- how an own class hands out its base's __init__ -/
structure XiC (K : PySem.W.Frag) (D : Addr) (initId : String) : Prop where
  ga : PySem.W.specialIn K (.ref D) "__getattribute__" = some (some (.builtin "type.__getattribute__"))
  rd : PySem.W.readsIn K D (.type "type") = true
  at_ : PySem.W.findCls K (.ref D) (.type "type") "__init__" = some (.val (.builtin initId))
theorem pe_xinitO {D : Addr} {pl : Sem Bool} (F : ExcBaseFacts B newId initId bmB) (k : XiC X.K D initId) (hh : PySem.W.handedIn (.builtin initId) = true) (hg : Gl X x) (hm : X.mg x = some (.ref D)) (ha : PA X (e :: es) ta) (hd : (x == ("__debug__" : Str)) = false := by decide)
    (hc : eval (.Call (.Attribute (.Name x p1) "__init__" p2) (e :: es) [] pos) X.env = (do
      let ov ← eval (.Name x p1) X.env
      standAt p2.atName
      let (f, first) ← holding [ov] (getMethod ov "__init__" pl)
      callWith pos f first (backTo pos (starEach (e :: es) X.env)) (backToKw pos (keywordEach [] X.env))) := by rfl)
    (he : starEach (e :: es) X.env = (false, eval e X.env) :: starEach es X.env := by rfl) (hpl : (backTo pos (starEach es X.env)).any (·.1) = false := by rfl) :
    PE X (.Call (.Attribute (.Name x p1) "__init__" p2) (e :: es) [] pos) (uXI X.K newId bmB ta) := by
  refine ⟨fun pins s σ H Q I h => ?_⟩
  refine PySem.W.methodCall_KW (ld_glob I hg hm ?_ hd) hc
  refine PySem.W.method_cls I.kIn k.ga (PySem.W.cls_value I.kIn k.rd k.at_ hh ?_)
  show wpAny _ _ (callWith pos (Value.builtin initId) [] (backTo pos (starEach (e :: es) X.env)) []) _ _ _
  refine PyProof.Rows.callWith_method1 (thn (ha.run pos pins _ σ H _ (I.tok _) h) fun us s1 z => ?_) he hpl
  obtain ⟨vs, H1, I1, r1, q⟩ := z
  exact uXI_end (F0 := F) I1 r1 q

/-- the end of C(..) where no field was stored: the error is let go -/
theorem gone_end {H1 : Hp} {hp hp2 h2 : Heap} {g1 g2 : Array GenState} {d1 d2 : Drawn} {t1 t2 : Nat} {os1 os2 : OsState} {Q : XK} (T : Raises X (.ref C)) (I1 : Inv X pins σ H1 ⟨hp, g1, d1, t1, os1⟩)
    (ha : hp.objs.size ≤ a) (k : ∀ b o, hp.get? b = some o → hp2.get? b = some o) (un : Un (frs X.stack) [] (upd H1 a (exo a C none)) (upd H1 a (exo a C none)) hp2 h2) (hok : HOk X.prog X.w (upd H1 a (exo a C none)) h2) (ho : os2 = os1) (hb : AllBare g2)
    (q : Q (.ref C) none H1) : MkP X pins σ Q (.ref a) ⟨h2, g2, d2, t2, os2⟩ := by
  have ea : upd H1 a (exo a C none) a = some (exo a C none) := upd_same
  obtain ⟨t0, hoe⟩ := exo_at hok ea
  have hn : H1 a = none := I1.hok.fresh ha
  obtain ⟨G, g1', g2'⟩ := restrict h2 fun b => decide (b ≠ a)
  have gk : ∀ b, b ≠ a → G.get? b = h2.get? b := fun b hb => g1' b (decide_eq_true hb)
  have ge : G.get? a = none := g2' a (by simp)
  have nha : ∀ {b : Addr} {o : Obj}, hp.get? b = some o → b ≠ a := fun {b o} z => Nat.ne_of_lt (Nat.lt_of_lt_of_le (Heap.lt_size z) ha)
  have up : ∀ {b : Addr}, b ≠ a → H1 b = none → upd H1 a (exo a C none) b = none := fun {b} hb n => by rw [upd_ne hb]; exact n
  have U : Un (frs X.stack) [] H1 H1 hp G := {
    keep := fun b o z n hf hx => (gk b (nha z)).trans (un.keep b o (k b o z) (up (nha z) n) hf hx)
    slot := fun b o z n hf hx => by
      rw [gk b (nha z)]
      exact un.slot b o (k b o z) (up (nha z) n) hf hx
    free := fun b o z n hx => n
    there := fun b o z hx => by
      rw [gk b (nha z)]
      exact un.there b o (k b o z) hx
    tups := fun b xs z => z
    frzs := fun b o v z => z
    tbls := fun b ps z => ⟨#[], by rw [z]; simp⟩ }
  have hok3 : HOk X.prog X.w H1 G := fun b o z => by
    have hba : b ≠ a := ne_of_none z hn
    have z2 : upd H1 a (exo a C none) b = some o := by rw [upd_ne hba]; exact z
    refine (hok b o z2).stay (fun c v hc y => ?_) (fun c hc => ?_) (fun c xs hc => ?_)
    · have hca : c ≠ a := by
        rcases hc with hc | hc
        · rw [hc]; exact hba
        · exact at_ne ea hc exo_own
      rw [gk c hca]
      exact y
    · rw [upd_ne (at_ne ea hc exo_own)] at hc
      exact hc
    · rw [upd_ne (at_ne ea hc exo_tup)] at hc
      exact hc
  have J : Inv X pins σ H1 ⟨G, g2, d2, t2, os2⟩ := I1.call' (ch := []) ho U hok3 hb (fun b z => absurd z (by simp))
  refine ⟨a, _, _, ⟨G, g2, d2, t2, os2⟩, _, .ref C, none, rfl, J, fun b o z => ?_, ge, hoe, ⟨rfl, rfl⟩, rfl, rfl, hn, rfl, hb, T, q⟩
  by_cases hba : b = a
  · have z' : G.get? b = some o := z
    rw [hba, ge] at z'
    cases z'
  · exact (gk b hba).symm.trans z
/-- C(): its own __init__ keeps sp and stores nothing -/
def uMk0 (C : Addr) (sp : Sp) : L2.St → Hp → XK → Prop := fun σ H Q => ∀ a, H a = none → sp [.ref a] (upd H a (exo a C none)) (fun v H2 => v = .non ∧ H2 = upd H a (exo a C none) ∧ Q (.ref C) none H) (fun _ _ _ => False)
theorem pmk_x0 {CX : CXT} {p : Pos} {fI : Addr} {k : Nat} {fd : FuncData} {ps : List Str} {sp : Sp} (F : ExcBaseFacts B newId initId bmB) (T : OexB X.K C newId bmB) (iC : PySem.W.findIn X.K (.ref C) "__init__" = some (some (.ref fI))) (tI : PySem.W.typeIn X.K (.ref fI) = some (.type "function"))
    (F1 : FnOk X.prog X.w X.K X.mg X.base CX k fI fd ps sp) (hr : Room (k + 1) X.A) (hb : Binds X.K fd ps []) (hx : Passes CX X (fun _ _ _ => False)) (hm : X.mg x = some (.ref C)) (hg : Gl X x)
    (hdb : (x == ("__debug__" : Str)) = false := by decide) : PMk X (.Call (.Name x p) [] [] pos) (uMk0 C sp) := by
  intro pins s σ H Q I h
  obtain ⟨nm, q, N, bs, bm, sn, sub, ab, col, dd, k0, k1, k2, k3, k5, hC, hT⟩ := T.cls
  refine wpAny_Call_Name_kw (ld_glob I hg hm ?_ hdb)
  refine PySem.W.callWith_K0 I.kIn T.kC ?_
  obtain ⟨hp, g, dr, tk, os⟩ := s
  have hsz : hp.objs.size ≤ hp.objs.size + 1 := Nat.le_succ _
  have hn : H (hp.objs.size + 1) = none := I.hok.fresh hsz
  have hq := h (hp.objs.size + 1) hn
  have kk : ∀ b o, hp.get? b = some o → ((hp.push (PySem.W.kdv_tup [])).push (PySem.HandSPX.excO C hp.objs.size)).get? b = some o := fun b o e => Heap.get?_push_of_some _ (Heap.get?_push_of_some _ e)
  have hget : ((hp.push (PySem.W.kdv_tup [])).push (PySem.HandSPX.excO C hp.objs.size)).get? (hp.objs.size + 1) = some (PySem.HandSPX.excO C hp.objs.size) := by heap_get
  have I2 : Inv X pins σ (upd H (hp.objs.size + 1) (exo (hp.objs.size + 1) C none)) ⟨(hp.push (PySem.W.kdv_tup [])).push (PySem.HandSPX.excO C hp.objs.size), g, dr, tk, os⟩ :=
    I.laid (t' := tk) (a := hp.objs.size + 1) (o := exo (hp.objs.size + 1) C none) (h' := (hp.push (PySem.W.kdv_tup [])).push (PySem.HandSPX.excO C hp.objs.size)) kk hsz (exo_ok hget)
  have r2 : Vals [V.ref (hp.objs.size + 1)] [Value.ref (hp.objs.size + 1)] := .cons rfl .nil
  have hl : ([Value.ref (hp.objs.size + 1)] ++ []).length = ps.length := (F1.len _ _ _ _ hq).symm.symm
  refine wpAny_call (PySem.HandSPX.call_own F hT (I.kIn _ _ hC) (PySem.W.looks_findIn I.kIn iC) (fun self => PySem.W.bind_fn I.kIn self tI) (Nat.zero_le _)
    (codeAny_mono (F1.run _ X.stack _ _ ⟨[Value.ref (hp.objs.size + 1)], []⟩ [Value.ref (hp.objs.size + 1)] _ _ (fun _ _ _ => False) (hr.make C [] []) (I2.env0.make C [] []) (hb _ [Value.ref (hp.objs.size + 1)] I2.kIn hl) r2 hq) fun r s' hq' => ?_))
  cases r with
  | error er => exact hx pins σ _ _ er s' I2 hq'
  | ok fl =>
    cases fl with
    | ret u =>
      obtain ⟨v, H2, os2, bare2, un2, hok2, rv, ev, eH, q2⟩ := hq'
      subst ev
      subst eH
      obtain ⟨h2, g2, d2, t2, os'⟩ := s'
      exact ⟨rv, gone_end (raises_own T.exC T.tyC) I hsz kk un2 hok2 os2 bare2 q2⟩
    | next => exact False.elim hq'
    | brk => exact False.elim hq'
    | cont => exact False.elim hq'
end
end Bk

set_option Elab.async false
set_option linter.all false
set_option maxRecDepth 100000
set_option maxHeartbeats 4000000
/-! Bk3: list(zip(a, b)) of two tuples or two lists. -/
namespace Bk
open PySem PySem.Spec PyProof.Rows L2
section
variable {prog : Program} {w : World} {A : Around} {E : Value → Shared → Prop} {s : Shared}
/-- k: two tuples, else two lists: an iterator over xs at place i -/
def SIt (h : Heap) (k : Bool) (it l : Addr) (i : Nat) (xs : Array Value) : Prop := match k with
  | true => h.IsTupleIter it l i ∧ h.IsTuple l xs
  | false => h.IsListIter it l i ∧ h.IsList l xs
theorem SIt.keep {h h' : Heap} {k : Bool} {it l : Addr} {i : Nat} {xs : Array Value} (x : SIt h k it l i xs) (ki : ∀ o, h.get? it = some o → h'.get? it = some o) (kl : ∀ o, h.get? l = some o → h'.get? l = some o) : SIt h' k it l i xs := by
  cases k with
  | true =>
    obtain ⟨⟨o, e1, e2⟩, ⟨o', f1, f2⟩⟩ := x
    exact ⟨⟨o, ki o e1, e2⟩, ⟨o', kl o' f1, f2⟩⟩
  | false =>
    obtain ⟨⟨o, e1, e2⟩, ⟨o', f1, f2⟩⟩ := x
    exact ⟨⟨o, ki o e1, e2⟩, ⟨o', kl o' f1, f2⟩⟩
theorem SIt.step {h h' : Heap} {k : Bool} {it l : Addr} {i : Nat} {xs : Array Value} (x : SIt h k it l i xs) (hn : l ≠ it) (ki : match k with | true => h'.IsTupleIter it l (i + 1) | false => h'.IsListIter it l (i + 1)) (kl : Heap.SameBut it h h') : SIt h' k it l (i + 1) xs := by
  cases k with
  | true =>
    obtain ⟨_, ⟨o', f1, f2⟩⟩ := x
    exact ⟨ki, ⟨o', kl.extBut _ _ hn f1, f2⟩⟩
  | false =>
    obtain ⟨_, ⟨o', f1, f2⟩⟩ := x
    exact ⟨ki, ⟨o', kl.extBut _ _ hn f1, f2⟩⟩
theorem sit_item {k : Bool} {it l : Addr} {i : Nat} {xs : Array Value} {x : Value} {Q : Value → Shared → Prop} (hit : SIt s.heap k it l i xs) (hn : l ≠ it) (hx : xs[i]? = some x)
    (hQ : ∀ h', SIt h' k it l (i + 1) xs → Heap.SameBut it s.heap h' → Q x { s with heap := h' }) : wpAny (model prog w) A (Builtin.SmallTypes.nextOf (.ref it)) Q E s := by
  cases k with
  | true => exact RZ.nextOf_tuple_item hit.1 hit.2 hx fun h' a b => hQ h' (hit.step hn a b) b
  | false => exact wpAny_nextOf_list_item hit.1 hit.2 hx fun h' a b => hQ h' (hit.step hn a b) b
theorem sit_end {k : Bool} {it l : Addr} {i : Nat} {xs : Array Value} {Q : Value → Shared → Prop} (hh : A.handled = none) (hit : SIt s.heap k it l i xs) (hx : xs[i]? = none)
    (hE : ∀ h' e, Heap.ExtBut it s.heap h' → (∃ o, h'.get? e = some o ∧ o.cls = .type "StopIteration") → E (.ref e) { s with heap := h' }) : wpAny (model prog w) A (Builtin.SmallTypes.nextOf (.ref it)) Q E s := by
  cases k with
  | true => exact RZ.nextOf_tuple_end hh hit.1 hit.2 hx hE
  | false => exact wpAny_nextOf_list_end hh hit.1 hit.2 hx hE

/-- one turn while the tuple given out before is still there -/
theorem held_item {k : Bool} {z TI TO T i1 i2 l1 l2 : Addr} {f : Bool} {oT : Obj} {i : Nat} {xs ys : Array Value} {x y : Value} {Q : Value → Shared → Prop} (D : ZipApart z TI TO i1 i2 l1 l2)
    (hz : IsZipHeld s.heap z TI TO T f) (hT : s.heap.get? T = some oT) (hTI : IsPair s.heap TI (.ref i1) (.ref i2)) (h1 : SIt s.heap k i1 l1 i xs) (h2 : SIt s.heap k i2 l2 i ys) (hx : xs[i]? = some x) (hy : ys[i]? = some y)
    (hQ : ∀ h', IsZipHeld h' z TI TO T true → SIt h' k i1 l1 (i + 1) xs → SIt h' k i2 l2 (i + 1) ys → IsPair h' s.heap.objs.size x y → h'.objs.size = s.heap.objs.size + 1 →
      (∀ c o, c ≠ z → c ≠ i1 → c ≠ i2 → s.heap.get? c = some o → h'.get? c = some o) → Q (.ref s.heap.objs.size) { s with heap := h' }) :
    wpAny (model prog w) A (Builtin.«zip.__next__» ⟨[.ref z], []⟩) (fun fin s' => ∃ v, fin = .done (.ret v) ∧ Q v s') E s := by
  show wpAny _ _ (field (.ref z) 2 >>= _) _ _ _
  refine wpAny_bind (wpAny_field hz rfl (x := .bool false) rfl ?_)
  show wpAny _ _ (field (.ref z) 3 >>= _) _ _ _
  refine wpAny_bind (wpAny_field hz rfl (x := .ref TI) rfl ?_)
  refine wpAny_bind (wpAny_seqItems hTI rfl ?_)
  show wpAny _ _ (Builtin.SmallTypes.ownedTupleIsFree (.ref z) >>= _) _ _ _
  refine wpAny_bind (wpAny_tupleHeld_zip hz hT fun g1 z1 b1 => ?_)
  simp only [Bool.false_eq_true, if_false]
  refine wpAny_bind ?_
  rw [← Array.forIn_toList]
  simp only [List.forIn_cons, List.forIn_nil]
  refine wpAny_bind (wpAny_bind (wpAny_holding ?_))
  show wpAny _ _ (Builtin.SmallTypes.nextOf (.ref i1) >>= _) _ _ _
  have p1 : SIt g1 k i1 l1 i xs := h1.keep (fun o e => b1.extBut _ _ D.i1z e) fun o e => b1.extBut _ _ D.l1z e
  refine wpAny_bind (sit_item (s := { s with heap := g1 }) p1 D.l1i1 hx fun g2 q1 b2 => wpAny_pure ?_)
  refine wpAny_pure ?_
  refine wpAny_bind (wpAny_bind (wpAny_holding ?_))
  show wpAny _ _ (Builtin.SmallTypes.nextOf (.ref i2) >>= _) _ _ _
  have p2 : SIt g2 k i2 l2 i ys := (h2.keep (fun o e => b1.extBut _ _ D.i2z e) fun o e => b1.extBut _ _ D.l2z e).keep (fun o e => b2.extBut _ _ D.i12.symm e) fun o e => b2.extBut _ _ D.l2i1 e
  refine wpAny_bind (sit_item (s := { s with heap := g2 }) p2 D.l2i2 hy fun g3 q2 b3 => wpAny_pure ?_)
  refine wpAny_pure (wpAny_pure ?_)
  show wpAny _ _ (newTuple [x, y] >>= _) _ _ _
  refine wpAny_bind (wpAny_newTuple ?_)
  have hsz : g3.objs.size = s.heap.objs.size := by rw [b3.1, b2.1, b1.1]
  have z3 : IsZipHeld g3 z TI TO T true := b3.extBut _ _ D.i2z.symm (b2.extBut _ _ D.i1z.symm z1)
  have hk : ∀ c o, c ≠ z → c ≠ i1 → c ≠ i2 → s.heap.get? c = some o → g3.get? c = some o := fun c o c1 c2 c3 e => b3.extBut _ _ c3 (b2.extBut _ _ c2 (b1.extBut _ _ c1 e))
  have q3 : SIt g3 k i1 l1 (i + 1) xs := q1.keep (fun o e => b3.extBut _ _ D.i12 e) fun o e => b3.extBut _ _ D.l1i2 e
  refine wpAny_pure ⟨_, rfl, ?_⟩
  show Q (.ref g3.objs.size) _
  have hp : IsPair (g3.push { cls := .type "tuple", data := .seq #[x, y] }) g3.objs.size x y := Heap.get?_push_size _ rfl
  have z4 : (g3.push { cls := .type "tuple", data := .seq #[x, y] }).objs.size = g3.objs.size + 1 := Heap.size_push ..
  rw [hsz] at hp z4 ⊢
  exact hQ _ (Heap.get?_push_of_some _ z3) (q3.keep (fun o e => Heap.get?_push_of_some _ e) fun o e => Heap.get?_push_of_some _ e) (q2.keep (fun o e => Heap.get?_push_of_some _ e) fun o e => Heap.get?_push_of_some _ e) hp z4
    fun c o c1 c2 c3 e => Heap.get?_push_of_some _ (hk c o c1 c2 c3 e)
theorem held_end {k : Bool} {z TI TO T i1 i2 l1 l2 : Addr} {f : Bool} {oT : Obj} {i : Nat} {xs : Array Value} {Q : Fin → Shared → Prop} (hh : A.handled = none) (D : ZipApart z TI TO i1 i2 l1 l2)
    (hz : IsZipHeld s.heap z TI TO T f) (hT : s.heap.get? T = some oT) (hTI : IsPair s.heap TI (.ref i1) (.ref i2)) (h1 : SIt s.heap k i1 l1 i xs) (hx : xs[i]? = none)
    (hE : ∀ h' e, (∀ c o, c ≠ z → c ≠ i1 → c ≠ i2 → s.heap.get? c = some o → h'.get? c = some o) → (∃ o, h'.get? e = some o ∧ o.cls = .type "StopIteration") → E (.ref e) { s with heap := h' }) :
    wpAny (model prog w) A (Builtin.«zip.__next__» ⟨[.ref z], []⟩) Q E s := by
  show wpAny _ _ (field (.ref z) 2 >>= _) _ _ _
  refine wpAny_bind (wpAny_field hz rfl (x := .bool false) rfl ?_)
  show wpAny _ _ (field (.ref z) 3 >>= _) _ _ _
  refine wpAny_bind (wpAny_field hz rfl (x := .ref TI) rfl ?_)
  refine wpAny_bind (wpAny_seqItems hTI rfl ?_)
  show wpAny _ _ (Builtin.SmallTypes.ownedTupleIsFree (.ref z) >>= _) _ _ _
  refine wpAny_bind (wpAny_tupleHeld_zip hz hT fun g1 z1 b1 => ?_)
  simp only [Bool.false_eq_true, if_false]
  refine wpAny_bind ?_
  rw [← Array.forIn_toList]
  simp only [List.forIn_cons, List.forIn_nil]
  refine wpAny_bind (wpAny_bind (wpAny_holding ?_))
  show wpAny _ _ (Builtin.SmallTypes.nextOf (.ref i1) >>= _) _ _ _
  have p1 : SIt g1 k i1 l1 i xs := h1.keep (fun o e => b1.extBut _ _ D.i1z e) fun o e => b1.extBut _ _ D.l1z e
  refine wpAny_bind (sit_end (s := { s with heap := g1 }) hh p1 hx fun g2 e b2 he => ?_)
  exact hE g2 e (fun c o c1 c2 _ x => b2 _ _ c2 (b1.extBut _ _ c1 x)) he
theorem ne_lo {a b lo : Nat} (g : lo < a) (h : b ≤ lo) : a ≠ b := Nat.ne_of_gt (Nat.lt_of_le_of_lt h g)
/-- the zip at z over two such iterators; the tuple that is out stands above lo -/
structure ZSt (h : Heap) (k : Bool) (lo z TI TO i1 i2 l1 l2 : Addr) (i : Nat) (xs ys : Array Value) : Prop where
  zp : (IsZip h z TI TO .none ∧ IsPair h TO .none .none) ∨ ∃ (T : Addr) (f : Bool), IsZipHeld h z TI TO T f ∧ (∃ o, h.get? T = some o) ∧ lo < T
  ti : IsPair h TI (.ref i1) (.ref i2)
  s1 : SIt h k i1 l1 i xs
  s2 : SIt h k i2 l2 i ys
theorem zs_item {k : Bool} {lo z TI TO i1 i2 l1 l2 : Addr} {i : Nat} {xs ys : Array Value} {x y : Value} {Q : Option Value → Shared → Prop} (D : ZipApart z TI TO i1 i2 l1 l2) (L : z ≤ lo ∧ TO ≤ lo ∧ i1 ≤ lo ∧ i2 ≤ lo) (hlo : lo < s.heap.objs.size) (st : ZSt s.heap k lo z TI TO i1 i2 l1 l2 i xs ys) (hx : xs[i]? = some x) (hy : ys[i]? = some y)
    (hQ : ∀ h', ZSt h' k lo z TI TO i1 i2 l1 l2 (i + 1) xs ys → IsPair h' s.heap.objs.size x y → h'.objs.size = s.heap.objs.size + 1 → (∀ c o, c ≠ z → c ≠ TO → c ≠ i1 → c ≠ i2 → s.heap.get? c = some o → h'.get? c = some o) → Q (some (.ref s.heap.objs.size)) { s with heap := h' }) :
    wpAny (model prog w) A (pyNext (.ref z)) Q E s := by
  obtain ⟨zp, ti, s1, s2⟩ := st
  rcases zp with ⟨hz, hTO⟩ | ⟨T, f, hz, ⟨oT, hT⟩, nT⟩
  · have fin : ∀ h', IsZip h' z TI TO (rawInt s.heap.objs.size) → SIt h' k i1 l1 (i + 1) xs → SIt h' k i2 l2 (i + 1) ys → IsPair h' s.heap.objs.size x y → h'.objs.size = s.heap.objs.size + 1 →
        (∀ c o, c ≠ z → c ≠ TO → c ≠ i1 → c ≠ i2 → s.heap.get? c = some o → h'.get? c = some o) → Q (some (.ref s.heap.objs.size)) { s with heap := h' } := fun h' a1 a3 a4 a5 a6 a7 =>
      hQ h' ⟨.inr ⟨s.heap.objs.size, false, a1, ⟨_, a5⟩, hlo⟩, a7 _ _ D.TIz D.TITO D.TIi1 D.TIi2 ti, a3, a4⟩ a5 a6 a7
    cases k with
    | true =>
      obtain ⟨j1, r1⟩ := s1
      obtain ⟨j2, r2⟩ := s2
      refine RZ.pyNext_zipT_item D hz ti hTO j1 j2 r1 r2 hx hy fun h' a1 a2 a3 a4 a5 a6 a7 => ?_
      obtain ⟨u1, f1, f2⟩ := r1
      obtain ⟨u2, g1, g2⟩ := r2
      exact fin h' a1 ⟨a3, ⟨u1, a7 _ _ D.l1z D.l1TO D.l1i1 D.l1i2 f1, f2⟩⟩ ⟨a4, ⟨u2, a7 _ _ D.l2z D.l2TO D.l2i1 D.l2i2 g1, g2⟩⟩ a5 a6 a7
    | false =>
      obtain ⟨j1, r1⟩ := s1
      obtain ⟨j2, r2⟩ := s2
      refine wpAny_pyNext_zip_item D hz ti hTO j1 j2 r1 r2 hx hy fun h' a1 a2 a3 a4 a5 a6 a7 => ?_
      obtain ⟨u1, f1, f2⟩ := r1
      obtain ⟨u2, g1, g2⟩ := r2
      exact fin h' a1 ⟨a3, ⟨u1, a7 _ _ D.l1z D.l1TO D.l1i1 D.l1i2 f1, f2⟩⟩ ⟨a4, ⟨u2, a7 _ _ D.l2z D.l2TO D.l2i1 D.l2i2 g1, g2⟩⟩ a5 a6 a7
  · have hTy : s.TypeIs (.ref z) "zip" := ⟨_, hz, rfl⟩
    unfold pyNext
    refine wpAny_bind (wpAny_attempt (wpAny_callSpecial?_slot (name := Str.ofString "__next__") hTy F.slot_zip_next
      (wpAny_call_entry F.slot_zip_next hTy F.entry_zip_next
        (held_item D hz hT ti s1 s2 hx hy fun h' a1 a3 a4 a5 a6 a7 => wpAny_pure ?_) (F.args_zip_next_1 _))))
    exact hQ h' ⟨.inr ⟨T, true, a1, ⟨_, a7 _ _ (ne_lo nT L.1) (ne_lo nT L.2.2.1) (ne_lo nT L.2.2.2) hT⟩, nT⟩, a7 _ _ D.TIz D.TIi1 D.TIi2 ti, a3, a4⟩ a5 a6 fun c o c1 _ c3 c4 e => a7 c o c1 c3 c4 e
theorem zs_end {k : Bool} {lo z TI TO i1 i2 l1 l2 : Addr} {i : Nat} {xs ys : Array Value} {Q : Option Value → Shared → Prop} (hh : A.handled = none) (D : ZipApart z TI TO i1 i2 l1 l2) (st : ZSt s.heap k lo z TI TO i1 i2 l1 l2 i xs ys) (hx : xs[i]? = none)
    (hQ : ∀ h', (∀ c o, c ≠ z → c ≠ TO → c ≠ i1 → c ≠ i2 → s.heap.get? c = some o → h'.get? c = some o) → Q none { s with heap := h' }) : wpAny (model prog w) A (pyNext (.ref z)) Q E s := by
  obtain ⟨zp, ti, s1, s2⟩ := st
  rcases zp with ⟨hz, hTO⟩ | ⟨T, f, hz, ⟨oT, hT⟩, nT⟩
  · cases k with
    | true => exact RZ.pyNext_zipT_end hh D hz ti hTO s1.1 s2.1 s1.2 s2.2 (.inl hx) hQ
    | false => exact wpAny_pyNext_zip_end hh D hz ti hTO s1.1 s2.1 s1.2 s2.2 (.inl hx) hQ
  · have hTy : s.TypeIs (.ref z) "zip" := ⟨_, hz, rfl⟩
    unfold pyNext
    refine wpAny_bind (wpAny_attempt (wpAny_callSpecial?_slot (name := Str.ofString "__next__") hTy F.slot_zip_next
      (wpAny_call_entry F.slot_zip_next hTy F.entry_zip_next (held_end hh D hz hT ti s1 hx fun h' e hk he => ?_) (F.args_zip_next_1 _))))
    obtain ⟨o, ho, hc⟩ := he
    refine wpAny_bind (wpAny_isInstance (T := "StopIteration") (b := true) ⟨o, ho, hc⟩ isSubtype_stop ?_)
    exact wpAny_pure (hQ _ fun c o c1 _ c3 c4 e => hk c o c1 c3 c4 e)
/-- the addresses as hold the pairs of xs and ys, in order, as tuples; they lie above lo and rise -/
structure Prs (xs ys : Array Value) (lo : Addr) (h : Heap) (as : List Addr) : Prop where
  rise : as.Pairwise (· < ·)
  above : ∀ a ∈ as, lo < a
  pairs : ∀ (j : Nat) (a : Addr), as[j]? = some a → ∃ x y, xs[j]? = some x ∧ ys[j]? = some y ∧ IsPair h a x y
theorem Prs.there {xs ys : Array Value} {lo : Addr} {h : Heap} {as : List Addr} (g : Prs xs ys lo h as) {a : Addr} (ha : a ∈ as) : a < h.objs.size := by
  obtain ⟨j, hj⟩ := List.mem_iff_getElem?.mp ha
  obtain ⟨_, _, _, _, e⟩ := g.pairs j a hj
  exact Heap.lt_size e
theorem Prs.low {xs ys : Array Value} {lo lo' : Addr} {h : Heap} {as : List Addr} (g : Prs xs ys lo h as) (hl : lo' ≤ lo) : Prs xs ys lo' h as := ⟨g.rise, fun a ha => Nat.lt_of_le_of_lt hl (g.above a ha), g.pairs⟩
theorem zip_lens : typeLookup (.type "zip") "__len__" = pure none := am_miss_of_fast (by decide +kernel)
theorem zip_hints : typeLookup (.type "zip") "__length_hint__" = pure none := am_miss_of_fast (by decide +kernel)
section
variable {R : Result → Shared → Prop} {k : Bool} {xs ys : Array Value}
theorem ZSt.keep {h h' : Heap} {lo z TI TO i1 i2 l1 l2 : Addr} {i : Nat} (x : ZSt h k lo z TI TO i1 i2 l1 l2 i xs ys) (S : Addr) (hk : ∀ b o, b ≠ S → h.get? b = some o → h'.get? b = some o) (n : S ≠ z ∧ S ≠ TI ∧ S ≠ TO ∧ S ≠ i1 ∧ S ≠ i2 ∧ S ≠ l1 ∧ S ≠ l2) (hS : S ≤ lo) : ZSt h' k lo z TI TO i1 i2 l1 l2 i xs ys := by
  obtain ⟨n1, n2, n3, n4, n5, n6, n7⟩ := n
  obtain ⟨zp, ti, s1, s2⟩ := x
  refine ⟨?_, hk _ _ n2.symm ti, s1.keep (fun o e => hk _ _ n4.symm e) (fun o e => hk _ _ n6.symm e), s2.keep (fun o e => hk _ _ n5.symm e) fun o e => hk _ _ n7.symm e⟩
  rcases zp with ⟨a, b⟩ | ⟨T, f, a, ⟨o, b⟩, c⟩
  · exact .inl ⟨hk _ _ n1.symm a, hk _ _ n3.symm b⟩
  · exact .inr ⟨T, f, hk _ _ n1.symm a, ⟨o, hk _ _ (ne_lo c hS) b⟩, c⟩
theorem zl_loop {S lo z TI TO i1 i2 l1 l2 : Addr} (hh : A.handled = none) (D : ZipApart z TI TO i1 i2 l1 l2) (n : S ≠ z ∧ S ≠ TI ∧ S ≠ TO ∧ S ≠ i1 ∧ S ≠ i2 ∧ S ≠ l1 ∧ S ≠ l2) (hSl : S ≤ lo) (L : z ≤ lo ∧ TO ≤ lo ∧ i1 ≤ lo ∧ i2 ≤ lo) (hsz : ys.size = xs.size) (hn : xs.size ≤ sizeLine) (res : Value) {h1 : Heap}
    (hR : ∀ h' tk acc c as, (∀ b o, b ≠ S → b ≠ z → b ≠ TO → b ≠ i1 → b ≠ i2 → h1.get? b = some o → h'.get? b = some o) → h'.get? S = some { cls := .type "list", dict := none, data := .seq acc c, slots := #[] } → as.length = xs.size → Prs xs ys lo h' as →
      acc.toList = as.map Value.ref → R (.ok (.ret res)) { s with heap := h', toks := tk }) :
    ∀ (m i : Nat) (h : Heap) (tk c : Nat) (acc : Array Value) (as : List Addr), xs.size - i = m → i ≤ xs.size → ZSt h k lo z TI TO i1 i2 l1 l2 i xs ys → (∀ b o, b ≠ S → b ≠ z → b ≠ TO → b ≠ i1 → b ≠ i2 → h1.get? b = some o → h.get? b = some o) →
      h.get? S = some { cls := .type "list", dict := none, data := .seq acc c, slots := #[] } → acc.toList = as.map Value.ref → as.length = i → Prs xs ys lo h as → lo < h.objs.size →
      codeAny (model prog w) A (.builtin "list.extend.loop" ⟨[.ref S, .ref z, res], []⟩) R { s with heap := h, toks := tk } := by
  intro m
  induction m with
  | zero =>
    intro i h tk c acc as hm hi st hkeep hS hacc hal hG hls
    have hin : i = xs.size := by omega
    refine codeAny_builtin PySem.F.entry_extend_loop ?_
    rw [Around.under_plainId PySem.F.plain_extend_loop _]
    show wpAny _ A.in1 (pyNext (.ref z) >>= _) _ _ _
    refine wpAny_bind (zs_end (s := { s with heap := h, toks := tk }) (A := A.in1) hh D st (by rw [hin]; simp) fun h' he => ?_)
    refine wpAny_pure (hR h' tk acc c as (fun b o q1 q2 q3 q4 q5 e => he b o q2 q3 q4 q5 (hkeep b o q1 q2 q3 q4 q5 e)) (he S _ n.1 n.2.2.1 n.2.2.2.1 n.2.2.2.2.1 hS) (by omega) ⟨hG.rise, hG.above, fun j a hj => ?_⟩ hacc)
    obtain ⟨x, y, e1, e2, e3⟩ := hG.pairs j a hj
    have ga := hG.above a (List.mem_of_getElem? hj)
    exact ⟨x, y, e1, e2, he a _ (ne_lo ga L.1) (ne_lo ga L.2.1) (ne_lo ga L.2.2.1) (ne_lo ga L.2.2.2) e3⟩
  | succ m ih =>
    intro i h tk c acc as hm hi st hkeep hS hacc hal hG hls
    have hlt : i < xs.size := by omega
    have hlt2 : i < ys.size := by omega
    have hac : acc.size = i := by rw [← Array.length_toList, hacc, List.length_map, hal]
    refine codeAny_builtin PySem.F.entry_extend_loop ?_
    rw [Around.under_plainId PySem.F.plain_extend_loop _]
    show wpAny _ A.in1 (pyNext (.ref z) >>= _) _ _ _
    refine wpAny_bind (zs_item (s := { s with heap := h, toks := tk }) D L hls st (Array.getElem?_eq_getElem hlt) (Array.getElem?_eq_getElem hlt2) fun h' st' ht hz' hkp => ?_)
    dsimp only at ht hz' hkp ⊢
    have hS' := hkp S _ n.1 n.2.2.1 n.2.2.2.1 n.2.2.2.2.1 hS
    have up : ∀ b o, b ≠ S → h'.get? b = some o → (h'.update S (Obj.mapSeq (·.push (Value.ref h.objs.size)))).get? b = some o := fun b o hb e => (Heap.get?_update_other _ _ (Ne.symm hb)).trans e
    have hSlt : S < h.objs.size := Heap.lt_size hS
    show wpAny _ A.in1 (updateSeq S (·.push (Value.ref h.objs.size)) >>= _) _ _ _
    refine wpAny_bind ?_
    refine wpAny_updateSeq hS' rfl (wpAny_pure ⟨plainId_quiet PySem.F.plain_extend_loop _, ih (i + 1) _ tk _ (acc.push (Value.ref h.objs.size)) (as ++ [h.objs.size]) (by omega) hlt (st'.keep S up n hSl)
      (fun b o q1 q2 q3 q4 q5 e => up b o q1 (hkp b o q2 q3 q4 q5 (hkeep b o q1 q2 q3 q4 q5 e))) (Heap.get?_update_self _ hS' rfl) (by rw [Array.toList_push, hacc, List.map_append]; rfl) (by rw [List.length_append, hal]; rfl) ⟨?_, ?_, ?_⟩ ?_⟩) (by rw [hac]; omega) (by show (acc.push (Value.ref h.objs.size)).size ≤ sizeLine + 1; rw [Array.size_push, hac]; omega)
    · refine List.pairwise_append.mpr ⟨hG.rise, List.pairwise_singleton _ _, fun a ha b hb => ?_⟩
      rw [List.mem_singleton.mp hb]
      exact hG.there ha
    · intro a ha
      rcases List.mem_append.mp ha with ha | ha
      · exact hG.above a ha
      · rw [List.mem_singleton.mp ha]; exact hls
    · intro j b hj
      rcases Nat.lt_trichotomy j as.length with q | q | q
      · rw [List.getElem?_append_left q] at hj
        obtain ⟨x, y, e1, e2, e3⟩ := hG.pairs j b hj
        have hb := hG.above b (List.mem_of_getElem? hj)
        exact ⟨x, y, e1, e2, up b _ (ne_lo hb hSl) (hkp b _ (ne_lo hb L.1) (ne_lo hb L.2.1) (ne_lo hb L.2.2.1) (ne_lo hb L.2.2.2) e3)⟩
      · subst q
        have hb : h.objs.size = b := by simpa using hj
        subst hb
        exact ⟨_, _, by rw [hal]; exact Array.getElem?_eq_getElem hlt, by rw [hal]; exact Array.getElem?_eq_getElem hlt2, up _ _ (Nat.ne_of_gt hSlt) ht⟩
      · have hnone : (as ++ [h.objs.size])[j]? = none := List.getElem?_eq_none (by rw [List.length_append, List.length_singleton]; omega)
        rw [hnone] at hj; cases hj
    · have e : (h'.update S (Obj.mapSeq (·.push (Value.ref h.objs.size)))).get? h.objs.size = _ := up _ _ (Nat.ne_of_gt hSlt) ht
      exact Nat.lt_trans hls (Heap.lt_size e)
theorem zip_hint {z TI TO : Addr} {f0 : Value} {Q : Bool → Shared → Prop} (hz : IsZip s.heap z TI TO f0) (h : Q true s) : wpAny (model prog w) A (Builtin.List.listLengthHint (.ref z)) Q E s := by
  have hT : s.TypeIs (.ref z) "zip" := ⟨_, hz, rfl⟩
  unfold Builtin.List.listLengthHint
  refine wpAny_bind (wpAny_specialOf hT zip_lens ?_)
  show wpAny _ _ (specialOf (Value.ref z) (Str.ofString "__length_hint__") >>= _) _ _ _
  refine wpAny_bind (wpAny_specialOf hT zip_hints ?_)
  exact wpAny_pure h
theorem zl_extend {S z TI TO i1 i2 l1 l2 : Addr} {lo c0 : Nat} (hh : A.handled = none) (D : ZipApart z TI TO i1 i2 l1 l2) (n : S ≠ z ∧ S ≠ TI ∧ S ≠ TO ∧ S ≠ i1 ∧ S ≠ i2 ∧ S ≠ l1 ∧ S ≠ l2) (hSl : S ≤ lo) (L : z ≤ lo ∧ TO ≤ lo ∧ i1 ≤ lo ∧ i2 ≤ lo) (hls : lo < s.heap.objs.size) (hsz : ys.size = xs.size) (hn : xs.size ≤ sizeLine) (res : Value)
    (st : ZSt s.heap k lo z TI TO i1 i2 l1 l2 0 xs ys) (hz0 : IsZip s.heap z TI TO .none) (hS : s.heap.get? S = some { cls := .type "list", data := .seq #[] c0 })
    (hR : ∀ h' tk acc c as, (∀ b o, b ≠ S → b ≠ z → b ≠ TO → b ≠ i1 → b ≠ i2 → s.heap.get? b = some o → h'.get? b = some o) → h'.get? S = some { cls := .type "list", dict := none, data := .seq acc c, slots := #[] } → as.length = xs.size → Prs xs ys lo h' as →
      acc.toList = as.map Value.ref → R (.ok (.ret res)) { s with heap := h', toks := tk }) :
    wpAny (model prog w) A.in1 (Builtin.List.listExtendWith (.ref S) (.ref z) res)
      (fun fin s' => match fin with | .done f => R (.ok f) s' | .again c' => c'.quiet = true ∧ codeAny (model prog w) A c' R s') (fun e s' => R (.error e) s') s := by
  have hT : s.TypeIs (.ref z) "zip" := ⟨_, hz0, rfl⟩
  unfold Builtin.List.listExtendWith
  refine wpAny_bind (wpAny_typeOf (T := "zip") hT ?_)
  have e1 : Builtin.List.listSameRef (.ref S) (.ref z) = false := by simp [Builtin.List.listSameRef, n.1]
  have e2 : (Value.type "zip" == Value.type "list") = false := by decide
  have e3 : (Value.type "zip" == Value.type "tuple") = false := by decide
  simp only [e1, e2, e3, Bool.or_false, Bool.false_eq_true, if_false]
  refine wpAny_bind (wpAny_pyIter_zip hz0 ?_)
  refine wpAny_bind (wpAny_holding (zip_hint hz0 ?_))
  simp only [Bool.true_or, if_true]
  refine wpAny_bind (wpAny_rule ?_)
  refine wpAny_bind ?_
  show wpAny _ _ (updateSeq S (·.push .none) >>= fun _ => updateSeq S (·.pop)) _ _ _
  refine wpAny_bind (wpAny_updateSeq hS rfl ?_)
  have hS2 := Heap.get?_update_self (Obj.mapSeq (·.push Value.none)) hS rfl
  refine wpAny_updateSeq (hz := by seq_fits) hS2 rfl ?_
  have hS3 := Heap.get?_update_self (Obj.mapSeq (·.pop)) hS2 rfl
  have oth : ∀ b o, b ≠ S → s.heap.get? b = some o → ((s.heap.update S (Obj.mapSeq (·.push Value.none))).update S (Obj.mapSeq (·.pop))).get? b = some o :=
    fun b o hb e => (Heap.get?_update_other _ _ (Ne.symm hb)).trans ((Heap.get?_update_other _ _ (Ne.symm hb)).trans e)
  refine wpAny_pure ⟨plainId_quiet PySem.F.plain_extend_loop _, ?_⟩
  refine zl_loop (s := s) (k := k) (h1 := s.heap) hh D n hSl L hsz hn res hR xs.size 0 _ s.toks _ #[] [] (Nat.sub_zero _) (Nat.zero_le _) (st.keep S oth n hSl) (fun b o q1 _ _ _ _ e => oth b o q1 e) hS3 rfl rfl
    ⟨List.Pairwise.nil, (fun _ ha => nomatch ha), (fun j a hj => by simp at hj)⟩ ?_
  rw [Heap.size_update, Heap.size_update]
  exact hls
theorem zl_call {z TI TO i1 i2 l1 l2 : Addr} {Q : Value → Shared → Prop} (hh : A.handled = none) (D : ZipApart z TI TO i1 i2 l1 l2) (U : z < s.heap.objs.size ∧ TI < s.heap.objs.size ∧ TO < s.heap.objs.size ∧ i1 < s.heap.objs.size ∧ i2 < s.heap.objs.size ∧ l1 < s.heap.objs.size ∧ l2 < s.heap.objs.size)
    (hsz : ys.size = xs.size) (hn : xs.size ≤ sizeLine) (st : ∀ lo, ZSt s.heap k lo z TI TO i1 i2 l1 l2 0 xs ys) (hz0 : IsZip s.heap z TI TO .none)
    (hQ : ∀ h' tk acc c as, (∀ b o, b ≠ z → b ≠ TO → b ≠ i1 → b ≠ i2 → s.heap.get? b = some o → h'.get? b = some o) → h'.get? s.heap.objs.size = some { cls := .type "list", dict := none, data := .seq acc c, slots := #[] } → as.length = xs.size → Prs xs ys s.heap.objs.size h' as →
      acc.toList = as.map Value.ref → Q (.ref s.heap.objs.size) { s with heap := h', toks := tk }) :
    wpAny (model prog w) A (call (.type "list") [.ref z]) Q E s := by
  refine callType_codes (Q₁ := fun obj s₁ => obj = .ref s.heap.objs.size ∧ s₁ = { s with heap := s.heap.push { cls := .type "list", data := .seq #[] } }) PySem.F.called_list (PySem.F.typeCall_list_1 _) PySem.F.entry_list_init
    (code_list_new _ ⟨rfl, rfl⟩) fun obj s₁ h₁ => ?_
  obtain ⟨rfl, rfl⟩ := h₁
  have hS : (s.heap.push { cls := .type "list", data := .seq #[] }).get? s.heap.objs.size = some { cls := .type "list", data := .seq #[] } := Heap.get?_push_size _ rfl
  refine ⟨⟨_, hS, rfl⟩, PySem.F.args_list_init_2 _ _, ?_⟩
  obtain ⟨u1, u2, u3, u4, u5, u6, u7⟩ := U
  show wpAny _ _ (do let old ← Builtin.List.listItems (.ref s.heap.objs.size); Builtin.List.listUpdate (.ref s.heap.objs.size) (fun _ => #[]); letGo old.toList.reverse; Builtin.List.listExtendWith (.ref s.heap.objs.size) (.ref z) .none) _ _ _
  refine wpAny_bind ?_
  unfold Builtin.List.listItems
  refine wpAny_bind (wpAny_seqItems hS rfl (wpAny_pure ?_))
  show wpAny _ _ (updateSeq s.heap.objs.size (fun _ => #[]) >>= fun _ => letGo (#[] : Array Value).toList.reverse >>= fun _ => Builtin.List.listExtendWith (.ref s.heap.objs.size) (.ref z) .none) _ _ _
  refine wpAny_bind (wpAny_updateSeq hS rfl ?_)
  have hS2 := Heap.get?_update_self (Obj.mapSeq (fun _ => (#[] : Array Value))) hS rfl
  have oth : ∀ b o, b ≠ s.heap.objs.size → s.heap.get? b = some o → ((s.heap.push { cls := .type "list", data := .seq #[] }).update s.heap.objs.size (Obj.mapSeq (fun _ => (#[] : Array Value)))).get? b = some o :=
    fun b o hb e => (Heap.get?_update_other _ _ (Ne.symm hb)).trans (Heap.get?_push_of_some _ e)
  refine wpAny_bind (wpAny_letGo ?_)
  have nn : s.heap.objs.size ≠ z ∧ s.heap.objs.size ≠ TI ∧ s.heap.objs.size ≠ TO ∧ s.heap.objs.size ≠ i1 ∧ s.heap.objs.size ≠ i2 ∧ s.heap.objs.size ≠ l1 ∧ s.heap.objs.size ≠ l2 :=
    ⟨Nat.ne_of_gt u1, Nat.ne_of_gt u2, Nat.ne_of_gt u3, Nat.ne_of_gt u4, Nat.ne_of_gt u5, Nat.ne_of_gt u6, Nat.ne_of_gt u7⟩
  refine zl_extend (s := { s with heap := (s.heap.push { cls := .type "list", data := .seq #[] }).update s.heap.objs.size (Obj.mapSeq (fun _ => (#[] : Array Value))) }) (prog := prog) (w := w) (A := A.in1) (R := wants (fun r s₂ => r = Value.none ∧ Q (Value.ref s.heap.objs.size) s₂) E) (k := k) (lo := s.heap.objs.size) hh D nn (Nat.le_refl _) ⟨Nat.le_of_lt u1, Nat.le_of_lt u3, Nat.le_of_lt u4, Nat.le_of_lt u5⟩ ?_ hsz hn .none ((st _).keep s.heap.objs.size oth nn (Nat.le_refl _)) (oth _ _ nn.1.symm hz0) hS2 (fun h' tk acc c as hk hS' hl hG hacc => ?_)
  · show s.heap.objs.size < (Heap.update _ _ _).objs.size
    rw [Heap.size_update, Heap.size_push]
    exact Nat.lt_succ_self _
  · exact ⟨rfl, hQ h' tk acc c as (fun b o q2 q3 q4 q5 e => hk b o (Nat.ne_of_lt (Heap.lt_size e)) q2 q3 q4 q5 (oth b o (Nat.ne_of_lt (Heap.lt_size e)) e)) hS' hl hG hacc⟩
end
end

/-! ### over the layer -/
/-- at ts stand the pairs of xs and ys -/
def Prz (H : Hp) (ts : List Addr) (xs ys : List V) : Prop := ts.length = xs.length ∧ ∀ (j : Nat) (t : Addr), ts[j]? = some t → ∃ x y, xs[j]? = some x ∧ ys[j]? = some y ∧ H t = some (.tup [x, y])
/-- list(zip(a, b)) -/
def uLZ (K : PySem.W.Frag) (ta : TA) : TE := fun σ H Q => ta σ H fun vs H1 => ∃ a b xs ys, vs = [.ref a, .ref b] ∧ xs.length = ys.length ∧ ((SqT K H1 a xs ∧ SqT K H1 b ys) ∨ (SqL K H1 a xs ∧ SqL K H1 b ys)) ∧
  ∀ (H' : Hp) (p : Addr) (ts : List Addr), Ex H1 H' → H1 p = none → (∀ t ∈ ts, H1 t = none) → p ∉ ts → H' p = some (.lst (ts.map V.ref)) → Prz H' ts xs ys → Q (.ref p) H'
section
variable {X : Cx} {pins : List (Addr × Obj)} {σ : L2.St} {H : Hp} {s : Shared}
/-- the tuples tracked at their addresses -/
def layT : Hp → List Addr → List V → List V → Hp
  | H, a :: as, x :: xs, y :: ys => layT (upd H a (.tup [x, y])) as xs ys
  | H, _, _, _ => H
theorem layT_off {b : Addr} : ∀ (as : List Addr) (xs ys : List V) (H : Hp), b ∉ as → layT H as xs ys b = H b
  | [], _, _, _, _ => rfl
  | _ :: _, [], _, _, _ => rfl
  | _ :: _, _ :: _, [], _, _ => rfl
  | a :: as, x :: xs, y :: ys, H, h => by
    show layT (upd H a (.tup [x, y])) as xs ys b = H b
    rw [layT_off as xs ys _ (fun z => h (List.mem_cons_of_mem _ z)), upd_ne (fun z => h (by rw [z]; exact List.mem_cons_self))]
theorem layT_at : ∀ (as : List Addr) (xs ys : List V) (H : Hp), as.length = xs.length → xs.length = ys.length → as.Nodup → Prz (layT H as xs ys) as xs ys
  | [], [], _, _, _, _, _ => ⟨rfl, fun j t h => by simp at h⟩
  | [], _ :: _, _, _, h, _, _ => by cases h
  | _ :: _, [], _, _, h, _, _ => by cases h
  | _ :: _, _ :: _, [], _, _, h, _ => by cases h
  | a :: as, x :: xs, y :: ys, H, h, h2, hn => by
    obtain ⟨n1, n2⟩ := List.nodup_cons.mp hn
    obtain ⟨l, ih⟩ := layT_at as xs ys (upd H a (.tup [x, y])) (Nat.succ.inj h) (Nat.succ.inj h2) n2
    refine ⟨h, fun j t e => ?_⟩
    show ∃ u v, _ ∧ _ ∧ layT (upd H a (.tup [x, y])) as xs ys t = _
    cases j with
    | zero =>
      simp at e
      subst e
      refine ⟨x, y, rfl, rfl, ?_⟩
      rw [layT_off as xs ys _ n1, upd_same]
    | succ j =>
      obtain ⟨u, v, e1, e2, e3⟩ := ih j t (by simpa using e)
      exact ⟨u, v, by simpa using e1, by simpa using e2, e3⟩
theorem zl_laid {h' : Heap} {tk : Nat} {xs ys : List V} {us vs : List Value} {acc : Array Value} {c : Nat} {as : List Addr} {S : Addr} (I : Inv X pins σ H s) (hz : xs.length ≤ sizeLine) (lxy : xs.length = ys.length) (ru : Vals xs us) (rv : Vals ys vs) (hS0 : s.heap.objs.size ≤ S)
    (hk : ∀ b o, s.heap.get? b = some o → h'.get? b = some o) (hS : h'.get? S = some { cls := .type "list", dict := none, data := .seq acc c, slots := #[] }) (hl : as.length = xs.length) (hG : Prs us.toArray vs.toArray S h' as) (hacc : acc.toList = as.map Value.ref) :
    ∃ H' : Hp, Ex H H' ∧ H S = none ∧ (∀ t ∈ as, H t = none) ∧ S ∉ as ∧ H' S = some (.lst (as.map V.ref)) ∧ Prz H' as xs ys ∧ Inv X pins σ H' { s with heap := h', toks := tk } := by
  have hSn : S ∉ as := fun z => Nat.lt_irrefl _ (hG.above _ z)
  have nd : as.Nodup := List.Pairwise.imp (fun {a b} (h : a < b) => Nat.ne_of_lt h) hG.rise
  have new : ∀ t ∈ as, H t = none := fun t ht => I.hok.fresh (Nat.le_trans hS0 (Nat.le_of_lt (hG.above t ht)))
  have newS : H S = none := I.hok.fresh hS0
  have atP := layT_at as xs ys (upd H S (.lst (as.map V.ref))) hl lxy nd
  have off : ∀ b, b ∉ as → b ≠ S → layT (upd H S (.lst (as.map V.ref))) as xs ys b = H b := fun b h1 h2 => by rw [layT_off as xs ys _ h1, upd_ne h2]
  have low : ∀ b o, s.heap.get? b = some o → b ∉ as ∧ b ≠ S := fun b o e => ⟨fun z => absurd (Heap.lt_size e) (Nat.not_lt.mpr (Nat.le_trans hS0 (Nat.le_of_lt (hG.above b z)))), Nat.ne_of_lt (Nat.lt_of_lt_of_le (Heap.lt_size e) hS0)⟩
  have kp : Ex H (layT (upd H S (.lst (as.map V.ref))) as xs ys) := fun b u e => by
    rw [off b (fun z => by rw [new b z] at e; cases e) (fun z => by rw [z, newS] at e; cases e)]
    exact e
  have eS : layT (upd H S (.lst (as.map V.ref))) as xs ys S = some (.lst (as.map V.ref)) := by rw [layT_off as xs ys _ hSn, upd_same]
  refine ⟨layT (upd H S (.lst (as.map V.ref))) as xs ys, kp, newS, new, hSn, eS, atP, ?_⟩
  refine I.call' (ch := []) rfl ⟨fun b o q _ _ _ => hk b o q, fun b o q _ _ _ => ⟨o.slots, hk b o q⟩, fun b o q n _ => ?_, fun b o q _ => ⟨o, hk b o q⟩, fun b xs q => kp b _ q, fun b o u q => kp b _ q, fun b ps q => ⟨#[], by rw [kp b _ q]; simp⟩⟩ (fun b u q => ?_) I.bare fun b z => by simp at z
  · obtain ⟨z1, z2⟩ := low b o q
    rw [off b z1 z2]
    exact n
  · by_cases hb : b ∈ as
    · obtain ⟨j, hj⟩ := List.mem_iff_getElem?.mp hb
      obtain ⟨x, y, e1, e2, e3⟩ := atP.2 j b hj
      rw [e3] at q
      cases q
      obtain ⟨x', y', f1, f2, f3⟩ := hG.pairs j b hj
      obtain ⟨u1, g1, r1⟩ := Vals.get ru e1
      obtain ⟨u2, g2, r2⟩ := Vals.get rv e2
      have a1 : x' = u1 := by
        rw [List.getElem?_toArray, g1] at f1
        exact (Option.some.inj f1).symm
      have a2 : y' = u2 := by
        rw [List.getElem?_toArray, g2] at f2
        exact (Option.some.inj f2).symm
      subst a1 a2
      exact ⟨by show 2 ≤ sizeLine; decide, [x', y'], .cons r1 (.cons r2 .nil), ⟨_, f3, rfl, _, rfl⟩⟩
    · by_cases hb2 : b = S
      · subst hb2
        rw [eS] at q
        cases q
        refine ⟨by rw [List.length_map, hl]; exact hz, acc.toList, c, by rw [hacc]; exact LiI.vals_refs as, ?_⟩
        rw [Array.toArray_toList]
        exact hS
      · rw [off b hb hb2] at q
        exact (I.hok b u q).stay (fun d v _ y => hk d v y) (fun d y => kp d _ y) fun d xs y => kp d _ y
theorem lt_ne {b n : Nat} (h : b < n) (j : Nat) : b ≠ n + j := Nat.ne_of_lt (Nat.lt_of_lt_of_le h (Nat.le_add_right _ _))
theorem lz7 {a b n : Nat} (la : a < n) (lb : b < n) : n + 4 < n + 5 ∧ n + 2 < n + 5 ∧ n + 3 < n + 5 ∧ n < n + 5 ∧ n + 1 < n + 5 ∧ a < n + 5 ∧ b < n + 5 := by omega
theorem pe_listZip {e e2 : Expr} {ta : TA} {p p2 pos pos2 : Pos} (hc : X.calm = true) (hg : Gl X "list") (hm : X.mg "list" = none) (hg2 : Gl X "zip") (hm2 : X.mg "zip" = none) (ha : PA X [e, e2] ta)
    (hs : starEach [e, e2] X.env = (false, eval e X.env) :: starEach [e2] X.env := by rfl) (hpl : (backTo pos2 (starEach [e2] X.env)).any (·.1) = false := by rfl)
    (hs1 : starEach [.Call (.Name "zip" p2) [e, e2] [] pos2] X.env = (false, eval (.Call (.Name "zip" p2) [e, e2] [] pos2) X.env) :: starEach [] X.env := by rfl) :
    PE X (.Call (.Name "list" p) [.Call (.Name "zip" p2) [e, e2] [] pos2] [] pos) (uLZ X.K ta) := by
  refine ⟨fun pins s σ H Q I h => ?_⟩
  refine wpAny_Call_Name_kw (ld_blt (u := .type "list") I hg hm (by decide +kernel) ?_)
  refine PyProof.Rows.callWith_type1 ?_ hs1 rfl
  rw [hs1]
  refine Calls.spliced_cons ?_
  refine Call_ (ld_blt I hg2 hm2 PyProof.Rows.boot_zip (PyProof.Rows.callWith_type1 (thn (ha.run pos2 pins s σ H _ I h) fun us s1 z => ?_) hs hpl))
  obtain ⟨vs, H1, I1, r1, a, b, xs, ys, ex, lxy, hq, q⟩ := z
  subst ex
  cases r1 with
  | cons r rr =>
    cases rr with
    | cons r' rr =>
      cases rr
      cases r
      cases r'
      have fin : ∀ (k : Bool) (its its2 : List Value), Vals xs its → Vals ys its2 → xs.length ≤ sizeLine → (∀ h' : Heap, (∀ c o, s1.heap.get? c = some o → h'.get? c = some o) → match k with | true => h'.IsTuple a its.toArray ∧ h'.IsTuple b its2.toArray | false => h'.IsList a its.toArray ∧ h'.IsList b its2.toArray) → a < s1.heap.objs.size → b < s1.heap.objs.size →
          ∀ h' : Heap, IsZip h' (s1.heap.objs.size + 4) (s1.heap.objs.size + 2) (s1.heap.objs.size + 3) .none → IsPair h' (s1.heap.objs.size + 2) (.ref s1.heap.objs.size) (.ref (s1.heap.objs.size + 1)) →
            IsPair h' (s1.heap.objs.size + 3) .none .none → (match k with | true => h'.IsTupleIter s1.heap.objs.size a 0 ∧ h'.IsTupleIter (s1.heap.objs.size + 1) b 0 | false => h'.IsListIter s1.heap.objs.size a 0 ∧ h'.IsListIter (s1.heap.objs.size + 1) b 0) → h'.objs.size = s1.heap.objs.size + 5 →
            (∀ c o, s1.heap.get? c = some o → h'.get? c = some o) → wpAny (model X.prog X.w) X.A (call (.type "list") [.ref (s1.heap.objs.size + 4)]) (EP X pins σ Q) X.xe { s1 with heap := h' } := by
        intro k its its2 rv rv2 hz hkk la lb h' hz0 hTI hTO hit hsz hk
        have lu := rv.length
        have lv := rv2.length
        have st : ∀ lo, ZSt h' k lo (s1.heap.objs.size + 4) (s1.heap.objs.size + 2) (s1.heap.objs.size + 3) s1.heap.objs.size (s1.heap.objs.size + 1) a b 0 its.toArray its2.toArray := fun lo => by
          have hq2 := hkk h' hk
          cases k with
          | true => exact ⟨.inl ⟨hz0, hTO⟩, hTI, ⟨hit.1, hq2.1⟩, ⟨hit.2, hq2.2⟩⟩
          | false => exact ⟨.inl ⟨hz0, hTO⟩, hTI, ⟨hit.1, hq2.1⟩, ⟨hit.2, hq2.2⟩⟩
        refine zl_call (s := { s1 with heap := h' }) (k := k) (I1.ok.hd hc) (PySem.W.ktu_apart s1.heap.objs.size a b la lb) ?_ (by rw [List.size_toArray, List.size_toArray]; omega) (by rw [List.size_toArray]; omega) st hz0 fun h2 tk acc c as k2 hS hl hG hacc => ?_
        · show _ < h'.objs.size ∧ _ < h'.objs.size ∧ _ < h'.objs.size ∧ _ < h'.objs.size ∧ _ < h'.objs.size ∧ _ < h'.objs.size ∧ _ < h'.objs.size
          rw [hsz]
          exact lz7 la lb
        · have hl' : as.length = xs.length := by
            rw [hl, List.size_toArray]
            omega
          have hS0 : s1.heap.objs.size ≤ h'.objs.size := by
            rw [hsz]
            exact Nat.le_add_right _ _
          obtain ⟨H', x1, x2, x3, x4, x5, x6, J⟩ := zl_laid (tk := tk) I1 hz lxy rv rv2 hS0 (fun b o e => k2 b o (lt_ne (Heap.lt_size e) 4) (lt_ne (Heap.lt_size e) 3) (lt_ne (Heap.lt_size e) 0) (lt_ne (Heap.lt_size e) 1) (hk b o e)) hS hl' hG hacc
          exact ⟨.ref h'.objs.size, H', J, rfl, q H' _ as x1 x2 x3 x4 x5 x6⟩
      rcases hq with ⟨hqx, hqy⟩ | ⟨hqx, hqy⟩
      · obtain ⟨its, rv, p1, z1⟩ := I1.tuple hqx
        obtain ⟨its2, rv2, p2, _⟩ := I1.tuple hqy
        obtain ⟨o1, ho1, w1⟩ := id p1
        obtain ⟨o2, ho2, w2⟩ := id p2
        have lu := rv.length
        refine RZ.call_zipT (show s1.heap.IsTuple a its.toArray from p1) (show s1.heap.IsTuple b its2.toArray from p2) fun h' hz hTI hTO h1 h2 hsz hk => ?_
        refine Calls.spliced_nil ?_
        exact fin true its its2 rv rv2 (by omega) (fun h3 k3 => ⟨⟨o1, k3 _ _ ho1, w1⟩, ⟨o2, k3 _ _ ho2, w2⟩⟩) (Heap.lt_size ho1) (Heap.lt_size ho2) h' hz hTI hTO ⟨h1, h2⟩ hsz hk
      · obtain ⟨its, rv, p1, z1⟩ := I1.list hqx
        obtain ⟨its2, rv2, p2, _⟩ := I1.list hqy
        have lu := rv.length
        obtain ⟨o1, ho1, w1⟩ := p1.isList
        obtain ⟨o2, ho2, w2⟩ := p2.isList
        refine call_zip_2 p1.isList p2.isList fun h' hz hTI hTO h1 h2 hsz hk => ?_
        refine Calls.spliced_nil ?_
        exact fin false its its2 rv rv2 (by omega) (fun h3 k3 => ⟨⟨o1, k3 _ _ ho1, w1⟩, ⟨o2, k3 _ _ ho2, w2⟩⟩) (Heap.lt_size ho1) (Heap.lt_size ho2) h' hz hTI hTO ⟨h1, h2⟩ hsz hk
end
end Bk

set_option Elab.async false
set_option linter.all false
set_option maxRecDepth 100000
set_option maxHeartbeats 4000000
/-! Bk4: calls of defs, of built-ins by values; the turns of a reading. -/
namespace Bk
open PySem PySem.Spec PyProof.Rows L2
section
variable {X : Cx}
/-! ### calls of defs -/
theorem passAt0 {σ : L2.St} : PassesAt (L2.CX X.prog X.w) X σ (fun _ _ _ => False) := fun _ _ _ _ _ _ h => by
  obtain ⟨_, _, _, _, _, _, _, _, _, _, _, _, z⟩ := h
  exact z.elim
def uCall (sp : Sp) (dvs : List V) (E : L2.St → XK) (t : TA) : TE := fun σ H Q => t σ H fun vs H1 => sp (vs ++ dvs) H1 Q (E σ)
theorem run_fnD {CX : CXT} {k : Nat} {f : Addr} {fd : FuncData} {ps : List Str} {sp : Sp} {ds : List Value} {dvs : List V} {E : XK} {pins : List (Addr × Obj)} {σ : L2.St} {H : Hp} {s : Shared} {Q : VK} {us : List Value} {vs : List V}
    (F : FnOk X.prog X.w X.K X.mg X.base CX k f fd ps sp) (hr : Room k X.A) (hb : Binds X.K fd ps ds) (hd : Vals dvs ds) (hx : PassesAt CX X σ E) (I : Inv X pins σ H s) (r : Vals vs us) (h : sp (vs ++ dvs) H Q E) :
    wpAny (model X.prog X.w) X.A (call (.ref f) us) (EP X pins σ Q) X.xe s := by
  have r2 : Vals (vs ++ dvs) (us ++ ds) := r.append hd
  have hl : (us ++ ds).length = ps.length := by rw [← r2.length]; exact F.len _ _ _ _ h
  refine wpAny_call (codeAny_mono (F.run X.A X.stack s H ⟨us, []⟩ (us ++ ds) (vs ++ dvs) Q E hr I.env0 (hb s us I.kIn hl) r2 h) fun r s' hq => ?_)
  cases r with
  | error e => exact hx pins H s e s' I hq
  | ok fl =>
    cases fl with
    | ret u => exact I.after hq
    | next => exact False.elim hq
    | brk => exact False.elim hq
    | cont => exact False.elim hq
variable {CX : CXT} {k : Nat} {f : Addr} {fd : FuncData} {ps : List Str} {sp : Sp} {ds : List Value} {dvs : List V} {E : L2.St → XK} {x : Str} {p pos : Pos} {e : Expr} {es : List Expr} {t : TA}
theorem pe_callD (F : FnOk X.prog X.w X.K X.mg X.base CX k f fd ps sp) (hr : Room k X.A) (hg : Gl X x) (hm : X.mg x = some (.ref f)) (hk : PySem.W.keepIn X.K (.ref f) = true) (hb : Binds X.K fd ps ds) (hd : Vals dvs ds) (hx : ∀ σ, PassesAt CX X σ (E σ))
    (ha : PA X (e :: es) t) (hdb : (x == ("__debug__" : Str)) = false := by decide) (he : starEach (e :: es) X.env = (false, eval e X.env) :: starEach es X.env := by rfl) (hpl : (backTo pos (starEach es X.env)).any (·.1) = false := by rfl) :
    PE X (.Call (.Name x p) (e :: es) [] pos) (uCall sp dvs E t) := by
  refine ⟨fun pins s σ H Q I h => ?_⟩
  refine wpAny_Call_Name_kw (ld_glob I hg hm ?_ hdb)
  refine PySem.W.callWith_K (h₀ := X.base) I.ok.mod.kin hk (thn (ha.run pos pins s σ H _ I h) fun us s1 z => ?_) he hpl
  obtain ⟨vs, H1, I1, r, q⟩ := z
  exact ⟨I1.kIn, run_fnD F hr hb hd (hx σ) I1 r q⟩
theorem pe_callD0 (F : FnOk X.prog X.w X.K X.mg X.base CX k f fd ps sp) (hr : Room k X.A) (hg : Gl X x) (hm : X.mg x = some (.ref f)) (hk : PySem.W.keepIn X.K (.ref f) = true) (hb : Binds X.K fd ps ds) (hd : Vals dvs ds) (hx : ∀ σ, PassesAt CX X σ (E σ))
    (hdb : (x == ("__debug__" : Str)) = false := by decide) : PE X (.Call (.Name x p) [] [] pos) (uCall sp dvs E tNil) := by
  refine ⟨fun pins s σ H Q I h => ?_⟩
  refine wpAny_Call_Name_kw (ld_glob I hg hm ?_ hdb)
  exact PySem.W.callWith_K0 I.kIn hk (run_fnD (us := []) F hr hb hd (hx σ) I .nil h)

/-! ### calls of built-ins by values -/
def uAbs : List V → Hp → VK → Prop := fun xs H Q => match xs with
  | [.int i] => Q (.int (i.natAbs : Nat)) H
  | _ => False
theorem uk_abs : CallR X (.builtin "abs") uAbs := by
  intro pins s σ H xs us Q I r h
  unfold uAbs at h
  split at h
  · rename_i i
    refine call_abs pins s σ H _ us Q I r ⟨_, rfl, ?_⟩
    have z : (if i < 0 then -i else i) = (i.natAbs : Nat) := by split <;> omega
    rw [z]
    exact h
  · exact h.elim
def uMax2 : List V → Hp → VK → Prop := fun xs H Q => match xs with
  | [.int i, .int j] => Q (.int (max i j)) H
  | _ => False
theorem uk_max2 (hc : X.calm = true) : CallR X (.builtin "max") uMax2 := by
  intro pins s σ H xs us Q I r h
  unfold uMax2 at h
  split at h
  · rename_i i j
    refine call_max2 hc pins s σ H _ us Q I r ⟨_, _, rfl, ?_⟩
    have z : (if j > i then j else i) = max i j := by split <;> omega
    rw [z]
    exact h
  · exact h.elim
def uMin2 : List V → Hp → VK → Prop := fun xs H Q => match xs with
  | [.int i, .int j] => Q (.int (min i j)) H
  | _ => False
theorem uk_min2 (hc : X.calm = true) : CallR X (.builtin "min") uMin2 := by
  intro pins s σ H xs us Q I r h
  unfold uMin2 at h
  split at h
  · rename_i i j
    refine call_min2 hc pins s σ H _ us Q I r ⟨_, _, rfl, ?_⟩
    have z : (if j < i then j else i) = min i j := by split <;> omega
    rw [z]
    exact h
  · exact h.elim
def b2z (b : Bool) : Int := if b then 1 else 0
def uInt : List V → Hp → VK → Prop := fun xs H Q => match xs with
  | [.int i] => Q (.int i) H
  | [.bl k] => Q (.int (b2z k)) H
  | _ => False
theorem uk_int : CallR X (.type "int") uInt := by
  intro pins s σ H xs us Q I r h
  unfold uInt at h
  split at h
  · exact call_int1 pins s σ H _ us Q I r (.inl ⟨_, rfl, h⟩)
  · exact call_int1 pins s σ H _ us Q I r (.inr ⟨_, rfl, h⟩)
  · exact h.elim
/-- a constant of the module's top -/
theorem pe_con {x : Str} {v : V} {pos : Pos} (hg : Gl X x) (h : ∃ u, X.mg x = some u ∧ RelV v u) (hd : (x == ("__debug__" : Str)) = false := by decide) : PE X (.Name x pos) (tC v) := by
  obtain ⟨u, hm, r⟩ := h
  exact pe_glob hg hm r hd

/-! ### isinstance by what the value is -/
/-- the kinds of values that we meet, as built-in types -/
inductive Ty : PySem.W.Frag → Hp → V → String → Prop where
  | non {K : PySem.W.Frag} {H : Hp} : Ty K H .non "NoneType"
  | bl {K : PySem.W.Frag} {H : Hp} (b : Bool) : Ty K H (.bl b) "bool"
  | int {K : PySem.W.Frag} {H : Hp} (i : Int) : Ty K H (.int i) "int"
  | str {K : PySem.W.Frag} {H : Hp} (z : Str) : Ty K H (.str z) "str"
  | lst {K : PySem.W.Frag} {H : Hp} {a : Addr} {xs : List V} (e : H a = some (.lst xs)) : Ty K H (.ref a) "list"
  | tup {K : PySem.W.Frag} {H : Hp} {a : Addr} {xs : List V} (e : H a = some (.tup xs)) : Ty K H (.ref a) "tuple"
theorem Ty.wide {K : PySem.W.Frag} {H : Hp} {v : V} {t : String} (h : Ty K H v t) : TyX K H v (.type t) := by
  cases h with
  | non => exact .base .non
  | bl b => exact .base (.bl b)
  | int i => exact .base (.int i)
  | str z => exact .base (.str z)
  | lst e => exact .base (.lst e)
  | tup e => exact .base (.tup e)
/-- isinstance(x, T), T a built-in type; x any value of ours -/
def uIs (K : PySem.W.Frag) : List V → Hp → VK → Prop := fun xs H Q => match xs with
  | [x, .ty T] => ∃ (t : String) (b : Bool), Ty K H x t ∧ kitB t T = some b ∧ Q (.bl b) H
  | _ => False
theorem uk_is : CallR X (.builtin "isinstance") (uIs X.K) := by
  intro pins s σ H xs us Q I r h
  unfold uIs at h
  split at h
  · obtain ⟨t, b, ty, e, q⟩ := h
    exact call_isi pins s σ H _ us Q I r ⟨_, _, _, _, b, rfl, .ty _, ty.wide, kit_ty e, q⟩
  · exact h.elim
/-- isinstance(x, (T, U)) -/
def uIsT (K : PySem.W.Frag) : List V → Hp → VK → Prop := fun xs H Q => match xs with
  | [x, .ref p] => ∃ (t T U : String) (b c : Bool), H p = some (.tup [.ty T, .ty U]) ∧ Ty K H x t ∧ kitB t T = some b ∧ kitB t U = some c ∧ Q (.bl (b || c)) H
  | _ => False
theorem uk_isT : CallR X (.builtin "isinstance") (uIsT X.K) := by
  intro pins s σ H xs us Q I r h
  unfold uIsT at h
  split at h
  · obtain ⟨t, T, U, b, c, ep, ty, e1, e2, q⟩ := h
    refine call_isiT pins s σ H _ us Q I r ⟨_, _, _, _, [.type T, .type U], b || c, rfl, ep, .cons (.ty T) (.cons (.ty U) .nil), ty.wide, ?_, q⟩
    refine kitAny_cons (kit_ty e1) (fun hb => ?_) fun hb => by rw [hb]; rfl
    rw [hb]
    exact kitAny_cons (kit_ty e2) (fun hc => by rw [hc]; rfl) fun hc => by rw [hc]; rfl
  · exact h.elim
end
end Bk

set_option Elab.async false
set_option linter.all false
set_option maxRecDepth 100000
set_option maxHeartbeats 4000000
/-! Bk5: the turns of a reading, one lemma a word. -/
namespace Bk
open PySem PySem.Spec PyProof.Rows L2
section
variable {D : Ends} {σ : L2.St} {H : Hp} {Q : VK} {K : PySem.W.Frag} {te ta tb tx : TE} {t u : TS} {c d : TT} {g : TG} {tr : TA} {v : V} {i j : Int} {n m : Nat} {r : R2} {gg : Int → Int → V} {C : Int → Int → Prop} {q : Bool → Hp → Prop} {b : Bool}
/-! statements -/
theorem g_seq (h : t { D with nx := u D } σ H) : tSeq t u D σ H := h
theorem g_asg (h : te σ H fun x H1 => g x σ H1 D.nx) : tAsg te g D σ H := h
theorem g_ret (h : te σ H D.rt) : tRet te D σ H := h
theorem g_retN (h : D.rt .non H) : tRetN D σ H := h
theorem g_drop (h : te σ H fun _ H1 => D.nx σ H1) : tDrop te D σ H := h
theorem g_ifs (h : c σ H fun b H1 => if b = true then t D σ H1 else u D σ H1) : tIfS c t u D σ H := h
theorem g_next (h : D.nx σ H) : tNext D σ H := h
theorem g_par {tA : TA} (h : tA σ H fun vs H1 => ∃ v w, vs = [v, w] ∧ D.nx ((σ.set n (some v)).set m (some w)) H1) : tPar n m tA D σ H := h
theorem g_pair {x y : V} {P : V → V → Prop} (h : P x y) : ∃ v w, [x, y] = [v, w] ∧ P v w := ⟨x, y, rfl, h⟩
theorem g_name {P : L2.St → Hp → Prop} (h : P (σ.set n (some v)) H) : gName n v σ H P := h
theorem g_sub {to ti : TE} {ts : TSet} {P : L2.St → Hp → Prop} (h : to σ H fun o H1 => ti σ H1 fun i H2 => ts o i v H2 fun H3 => P σ H3) : gSub to ti ts v σ H P := h
theorem g_setL {p : Addr} {xs : List V} {P : Hp → Prop} {k : Nat} (hp : H p = some (.lst xs)) (hk : ixN xs.length i = some k) (h : P (upd H p (.lst (xs.set k v)))) : rSetL (.ref p) (.int i) v H P := ⟨p, xs, i, k, rfl, rfl, hp, hk, h⟩
theorem g_tup2 {p : Addr} {x y : V} {t1 t2 : TG} {P : L2.St → Hp → Prop} (hp : H p = some (.tup [x, y])) (h : t1 x σ H fun σ1 H1 => t2 y σ1 H1 P) : gTup K 2 (gCons t1 (gCons t2 gNil)) (.ref p) σ H P := by
  refine ⟨p, [x, y], rfl, sqT hp, rfl, x, [y], rfl, ?_⟩
  have e : (fun σ' H' => gCons t2 gNil [y] σ' H' P) = fun σ1 H1 => t2 y σ1 H1 P := by
    funext σ1 H1
    apply propext
    constructor
    · rintro ⟨_, _, q, h⟩
      cases q
      have e2 : (fun σ' H' => gNil [] σ' H' P) = P := by
        funext σ2 H2
        exact propext ⟨fun z => z.2, fun z => ⟨rfl, z⟩⟩
      rw [e2] at h
      exact h
    · intro h
      refine ⟨y, [], rfl, ?_⟩
      have e2 : (fun σ' H' => gNil [] σ' H' P) = P := by
        funext σ2 H2
        exact propext ⟨fun z => z.2, fun z => ⟨rfl, z⟩⟩
      rw [e2]
      exact h
  rw [e]
  exact h
/-! expressions -/
theorem g_c (h : Q v H) : tC v σ H Q := h
theorem g_op (h : ta σ H fun x H1 => tb σ H1 fun y H2 => r x y H2 Q) : tOp r ta tb σ H Q := h
theorem g_un {f : V → Hp → VK → Prop} (h : ta σ H fun x H1 => f x H1 Q) : tUn f ta σ H Q := h
theorem g_cons {P : List V → Hp → Prop} (h : ta σ H fun x H1 => tr σ H1 fun xs H2 => P (x :: xs) H2) : tCons ta tr σ H P := h
theorem g_nil {P : List V → Hp → Prop} (h : P [] H) : tNil σ H P := h
theorem g_cb {f : List V → Hp → VK → Prop} (h : tr σ H fun vs H1 => f vs H1 Q) : tCB f tr σ H Q := h
theorem g_call {sp : Sp} {dvs : List V} {E : L2.St → XK} (h : tr σ H fun vs H1 => sp (vs ++ dvs) H1 Q (E σ)) : uCall sp dvs E tr σ H Q := h
theorem g_if (h : c σ H fun b H1 => if b = true then ta σ H1 Q else tb σ H1 Q) : tIf c ta tb σ H Q := h
theorem g_iT {A B : Prop} (h : A) : if true = true then A else B := by rw [if_pos rfl]; exact h
theorem g_iF {A B : Prop} (h : B) : if false = true then A else B := by rw [if_neg Bool.false_ne_true]; exact h
theorem g_iNT {A B : Prop} (h : B) : if (!true) = true then A else B := by rw [if_neg (by decide)]; exact h
theorem g_iNF {A B : Prop} (h : A) : if (!false) = true then A else B := by rw [if_pos (by decide)]; exact h
theorem g_isNn (h : Q (.bl true) H) : uIsN .non .non H Q := ⟨rfl, by rw [decide_eq_true rfl]; exact h⟩
theorem g_isNr {a : Addr} (h : Q (.bl false) H) : uIsN (.ref a) .non H Q := ⟨rfl, by rw [decide_eq_false (fun z => nomatch z)]; exact h⟩
theorem g_isNi (h : Q (.bl false) H) : uIsN (.int i) .non H Q := ⟨rfl, by rw [decide_eq_false (fun z => nomatch z)]; exact h⟩
theorem g_notNn (h : Q (.bl false) H) : uNotN .non .non H Q := ⟨rfl, by rw [decide_eq_true rfl]; exact h⟩
theorem g_notNr {a : Addr} (h : Q (.bl true) H) : uNotN (.ref a) .non H Q := ⟨rfl, by rw [decide_eq_false (fun z => nomatch z)]; exact h⟩
theorem g_notNi (h : Q (.bl true) H) : uNotN (.int i) .non H Q := ⟨rfl, by rw [decide_eq_false (fun z => nomatch z)]; exact h⟩
theorem g_i_true {P : V → Prop} {b : Bool} (e : b = true) (h : P (.bl true)) : P (.bl b) := e ▸ h
theorem g_notV (h : ta σ H fun x H1 => ∃ c, x = .bl c ∧ Q (.bl (!c)) H1) : tNotV ta σ H Q := h
theorem g_not (h : c σ H fun b H1 => q (!b) H1) : tNot c σ H q := h
theorem g_and (h : c σ H fun b H1 => if b = true then d σ H1 q else q false H1) : tAnd c d σ H q := h
theorem g_or (h : c σ H fun b H1 => if b = true then q true H1 else d σ H1 q) : tOr c d σ H q := h
theorem g_uT (h : te σ H fun x H1 => uTru K x H1 q) : uT K te σ H q := h
theorem g_test (h : te σ H fun x H1 => ∃ k, x = .bl k ∧ q k H1) : tTest te σ H q := h
theorem g_tB (h : te σ H fun x H1 => ∃ c, x = .bl c ∧ q c H1) : tB te σ H q := h
theorem g_bl {P : Bool → Prop} (h : P b) : ∃ k, V.bl b = .bl k ∧ P k := ⟨b, rfl, h⟩
theorem g_chain {r' : R2} (h : ta σ H fun x H1 => tb σ H1 fun y H2 => r x y H2 fun z H3 => ∃ k, z = .bl k ∧ (if k = true then tx σ H3 fun w' H4 => r' y w' H4 Q else Q (.bl false) H3)) : tChain r r' ta tb tx σ H Q := h
theorem g_andV (h : ta σ H fun x H1 => ∃ c, x = .bl c ∧ if c = true then tb σ H1 Q else Q (.bl false) H1) : tAndV ta tb σ H Q := h
theorem g_orV (h : ta σ H fun x H1 => ∃ c, x = .bl c ∧ if c = true then Q (.bl true) H1 else tb σ H1 Q) : tOrV ta tb σ H Q := h
theorem g_tbl (h : q b H) : uTru K (.bl b) H q := h
theorem g_tin (h : q (i != 0) H) : uTru K (.int i) H q := h
theorem g_addI (h : Q (.int (i + j)) H) : uAdd K (.int i) (.int j) H Q := h
theorem g_i0 (h : Q (gg i j) H) : uI0 gg (.int i) (.int j) H Q := h
theorem g_i (h : Q (gg i j) H) (hc : C i j) : uI C gg (.int i) (.int j) H Q := ⟨hc, h⟩
theorem g_neg (h : Q (.int (-i)) H) : uNeg (.int i) H Q := h
theorem g_eqI (h : Q (.bl (decide (V.int i = V.int j))) H) : rEq (.int i) (.int j) H Q := ⟨rfl, h⟩
theorem g_neI (h : Q (.bl (!decide (V.int i = V.int j))) H) : rNe (.int i) (.int j) H Q := ⟨rfl, h⟩
theorem g_eqS {x y : Str} (h : Q (.bl (decide (V.str x = V.str y))) H) : rEq (.str x) (.str y) H Q := ⟨rfl, h⟩
theorem g_neS {x y : Str} (h : Q (.bl (!decide (V.str x = V.str y))) H) : rNe (.str x) (.str y) H Q := ⟨rfl, h⟩
theorem g_neB {x y : Bool} (h : Q (.bl (!decide (V.bl x = V.bl y))) H) : rNe (.bl x) (.bl y) H Q := ⟨rfl, h⟩
theorem g_abs (h : Q (.int (i.natAbs : Nat)) H) : uAbs [.int i] H Q := h
theorem g_max (h : Q (.int (max i j)) H) : uMax2 [.int i, .int j] H Q := h
theorem g_min (h : Q (.int (min i j)) H) : uMin2 [.int i, .int j] H Q := h
theorem g_intI (h : Q (.int i) H) : uInt [.int i] H Q := h
theorem g_intB (h : Q (.int (b2z b)) H) : uInt [.bl b] H Q := h
theorem g_is {x : V} {T t : String} (ty : Ty K H x t) (e : kitB t T = some b) (h : Q (.bl b) H) : uIs K [x, .ty T] H Q := ⟨t, b, ty, e, h⟩
theorem g_lenL {p : Addr} {xs : List V} (hp : H p = some (.lst xs)) (h : Q (.int (xs.length : Nat)) H) : uLen K [.ref p] H Q := ⟨xs.length, .inl ⟨xs, .inl (sqL hp), rfl⟩, h⟩
theorem g_lenT {p : Addr} {xs : List V} (hp : H p = some (.tup xs)) (h : Q (.int (xs.length : Nat)) H) : uLen K [.ref p] H Q := ⟨xs.length, .inl ⟨xs, .inr (sqT hp), rfl⟩, h⟩
theorem g_lenSq {p : Addr} {xs : List V} (hp : SqL K H p xs) (h : Q (.int (xs.length : Nat)) H) : uLen K [.ref p] H Q := ⟨xs.length, .inl ⟨xs, .inl hp, rfl⟩, h⟩
theorem g_ixL {p : Addr} {xs : List V} (hp : H p = some (.lst xs)) (e : atI xs i = some v) (h : Q v H) : uIx K (.ref p) (.int i) H Q := ⟨xs, v, .inl (sqL hp), e, h⟩
theorem g_ixT {p : Addr} {xs : List V} (hp : H p = some (.tup xs)) (e : atI xs i = some v) (h : Q v H) : uIx K (.ref p) (.int i) H Q := ⟨xs, v, .inr (sqT hp), e, h⟩
theorem g_ixSq {p : Addr} {xs : List V} (hp : SqL K H p xs) (e : atI xs i = some v) (h : Q v H) : uIx K (.ref p) (.int i) H Q := ⟨xs, v, .inl hp, e, h⟩
theorem g_tup (h : tr σ H fun xs H1 => xs.length ≤ sizeLine ∧ ∀ p, H1 p = none → Q (.ref p) (upd H1 p (.tup xs))) : tTup tr σ H Q := h
theorem g_lst (h : tr σ H fun xs H1 => xs.length ≤ sizeLine ∧ ∀ p, H1 p = none → Q (.ref p) (upd H1 p (.lst xs))) : tLst tr σ H Q := h
theorem g_new {xs : List V} {P : Prop} (h : P) (hl : Nat.ble xs.length 1000 = true := by rfl) : xs.length ≤ sizeLine ∧ P := ⟨Nat.le_of_lt (small1000 (Nat.le_of_ble_eq_true hl)), h⟩
theorem g_newL {xs : List V} {P : Prop} (hl : xs.length ≤ 1000) (h : P) : xs.length ≤ sizeLine ∧ P := ⟨Nat.le_of_lt (small1000 hl), h⟩
theorem g_for {wi : TI} {tb : TS} {D : Ends} {σ : L2.St} {H : Hp} (h : wi σ H fun J H1 => ∃ W : Nat → Nat → L2.St → Hp → Prop, (∃ m, W 0 m σ H1) ∧ ∀ i m σ H, W i m σ H →
  (J.stop i H ∧ D.nx σ H) ∨ (J.go i H ∧ ∃ N : L2.St → Hp → Prop, (∀ σ' H', N σ' H' → ∃ m', m' < m ∧ W (i + 1) m' σ' H') ∧ ∀ x H', J.yld i H x H' → g x σ H' fun σ2 H2 => tb { D with nx := N, ct := N, bk := D.nx } σ2 H2)) : tFor wi g tb D σ H := h
theorem g_rng1 {R : It → Hp → Prop} (h : tr σ H fun vs H1 => ∃ j : Int, vs = [.int j] ∧ -(2 ^ 62) ≤ j ∧ j < 2 ^ 62 ∧ R (Itr 0 j.toNat) H1) : iRng1 tr σ H R := h
theorem g_rng2 {R : It → Hp → Prop} (h : tr σ H fun vs H1 => ∃ i j : Int, vs = [.int i, .int j] ∧ (-(2 ^ 62) ≤ i ∧ i < 2 ^ 62 ∧ -(2 ^ 62) ≤ j ∧ j < 2 ^ 62) ∧ R (Itr i (j - i).toNat) H1) : iRng2 tr σ H R := h
theorem g_bm0 {T : String} {f : V → List V → Hp → VK → Prop} (h : ta σ H fun x H1 => tyV K T x H1 ∧ f x [] H1 Q) : tBM0 K T f ta σ H Q := h
theorem g_bm {T : String} {f : V → List V → Hp → VK → Prop} (h : ta σ H fun x H1 => tyV K T x H1 ∧ tr σ H1 fun xs H2 => f x xs H2 Q) : tBM K T f ta tr σ H Q := h
theorem g_tyL {p : Addr} {xs : List V} {P : Prop} (hp : H p = some (.lst xs)) (h : P) : tyV K "list" (.ref p) H ∧ P := ⟨.inl ⟨rfl, xs, sqL hp⟩, h⟩
theorem g_app {p : Addr} {xs : List V} (hp : H p = some (.lst xs)) (hz : xs.length < sizeLine) (h : Q .non (upd H p (.lst (xs ++ [v])))) : rAppend (.ref p) [v] H Q := ⟨p, xs, v, rfl, rfl, hp, hz, h⟩
end
/-- the rest of a while's turn: it ends where W stands with less -/
def WN (W : Nat → L2.St → Hp → Prop) (m : Nat) (tb : TS) (D : Ends) (σ : L2.St) (H : Hp) : Prop := ∃ N : L2.St → Hp → Prop, (∀ σ' H', N σ' H' → ∃ m', m' < m ∧ W m' σ' H') ∧ tb { D with nx := N, ct := N, bk := D.nx } σ H
theorem g_wn {W : Nat → L2.St → Hp → Prop} {m : Nat} {tb : TS} {D : Ends} {σ : L2.St} {H : Hp} (h : tb { D with nx := fun σ' H' => ∃ m', m' < m ∧ W m' σ' H', ct := fun σ' H' => ∃ m', m' < m ∧ W m' σ' H', bk := D.nx } σ H) : WN W m tb D σ H := ⟨_, fun _ _ z => z, h⟩
/-- while, by a word that bears its measure -/
theorem g_while {c : TT} {tb : TS} {D : Ends} {σ : L2.St} {H : Hp} (W : Nat → L2.St → Hp → Prop) (m0 : Nat) (h0 : W m0 σ H) (hs : ∀ m σ H, W m σ H → c σ H fun b H1 => if b = true then WN W m tb D σ H1 else D.nx σ H1) : tWhile c tb D σ H :=
  ⟨W, ⟨m0, h0⟩, hs⟩
end Bk

set_option Elab.async false
set_option linter.all false
set_option maxRecDepth 100000
set_option maxHeartbeats 4000000
/-! Bk6: what all laws share: tests, boxes of draws, the law's own end. -/
namespace Bk
open PySem PySem.Spec PyProof.Rows L2
/-! ### tests -/
section
variable {A B : Prop} {i j : Int}
theorem i_d {p : Prop} [Decidable p] (h1 : p → A) (h2 : ¬ p → B) : if decide p = true then A else B := by
  by_cases h : p
  · rw [if_pos (decide_eq_true h)]; exact h1 h
  · rw [if_neg (by simp [h])]; exact h2 h
theorem i_n {p : Prop} [Decidable p] (h1 : ¬ p → A) (h2 : p → B) : if (!decide p) = true then A else B := by
  by_cases h : p
  · rw [if_neg (by simp [h])]; exact h2 h
  · rw [if_pos (by simp [h])]; exact h1 h
theorem i_b {b : Bool} (h1 : b = true → A) (h2 : b = false → B) : if b = true then A else B := by
  cases b with
  | true => rw [if_pos rfl]; exact h1 rfl
  | false => rw [if_neg Bool.false_ne_true]; exact h2 rfl
theorem i_eqI (h1 : i = j → A) (h2 : i ≠ j → B) : if decide (V.int i = V.int j) = true then A else B := i_d (fun h => h1 (V.int.inj h)) fun h => h2 fun e => h (congrArg V.int e)
theorem i_neI (h1 : i ≠ j → A) (h2 : i = j → B) : if (!decide (V.int i = V.int j)) = true then A else B := i_n (fun h => h1 fun e => h (congrArg V.int e)) fun h => h2 (V.int.inj h)
theorem i_eqS {x y : Str} (h1 : x = y → A) (h2 : x ≠ y → B) : if decide (V.str x = V.str y) = true then A else B := i_d (fun h => h1 (V.str.inj h)) fun h => h2 fun e => h (congrArg V.str e)
theorem i_neS {x y : Str} (h1 : x ≠ y → A) (h2 : x = y → B) : if (!decide (V.str x = V.str y)) = true then A else B := i_n (fun h => h1 fun e => h (congrArg V.str e)) fun h => h2 (V.str.inj h)
theorem i_T {b : Bool} (h : b = true) (a : A) : if b = true then A else B := by rw [if_pos h]; exact a
theorem i_F {b : Bool} (h : b = false) (a : B) : if b = true then A else B := by rw [h, if_neg Bool.false_ne_true]; exact a
end
/-- a statement that is never reached -/
theorem ps_no {X : Cx} {st : Stmt} : PS X st (fun _ _ _ => False) := ⟨fun _ _ _ _ _ _ h => h.elim⟩
/-! ### the structure's small parts -/
theorem exm_self {K : PySem.W.Frag} {S : Addr} (h1 : PySem.W.subIn K (.ref S) (.type "BaseException") = some true) (h2 : PySem.W.isClsIn K S = true) (h3 : PySem.W.typeIn K (.ref S) = some (.type "type")) (h4 : PySem.W.subIn K (.ref S) (.ref S) = some true) :
    PySem.W.exmOne K (.ref S) (.ref S) = some true := by
  have a : (PySem.W.subIn K (.ref S) (.type "BaseException") == some true) = true := by rw [h1] <;> rfl
  have b : ((PySem.W.clsIn K S).isSome && PySem.W.typeIn K (.ref S) == some (.type "type")) = true := by
    have z : (PySem.W.clsIn K S).isSome = true := h2
    rw [z, h3] <;> rfl
  show (if (PySem.W.subIn K (.ref S) (.type "BaseException") == some true) = true then (if ((PySem.W.clsIn K S).isSome && PySem.W.typeIn K (.ref S) == some (.type "type")) = true then PySem.W.subIn K (.ref S) (.ref S) else none) else none) = some true
  rw [if_pos a, if_pos b]
  exact h4
theorem binds_all {K : PySem.W.Frag} {fd : FuncData} {ps : List Str} (h : ∃ ds, Vals [] ds ∧ Binds K fd ps ds) : Binds K fd ps [] := by
  obtain ⟨ds, r, b⟩ := h
  cases r
  exact b
/-- what a law promises -/
def spLaw (K : PySem.W.Frag) : Sp := fun vs H Q _ => ∃ (a : Addr) (ns : List Int), vs = [.ref a] ∧ SqL K H a (ns.map V.int) ∧ ns.length ≤ 63 ∧ ∀ H', Q (.bl true) H'
theorem spLaw_of {K : PySem.W.Frag} {H : Hp} {a : Addr} {ns : List Int} (_ : Only H) (hS : SqL K H a (ns.map V.int)) (hl : ns.length ≤ 63) : spLaw K [.ref a] H (fun v _ => v = .bl true) fun _ _ _ => False := ⟨a, ns, rfl, hS, hl, fun _ => rfl⟩
theorem cx_false {P : Program} {w : World} {H : Hp} {s s' : Shared} {e : Value} (h : L2.CX P w [] H s (fun _ _ _ => False) e s') : False := by
  obtain ⟨_, _, _, _, _, _, _, _, _, _, _, _, z⟩ := h
  exact z
/-! ### a box of draws -/
def Box (H : Hp) (p : Addr) : Prop := ∃ a b c : Int, H p = some (.lst [.int a, .int b, .int c])
theorem Box.ex {H H' : Hp} {p : Addr} (b : Box H p) (e : Ex H H') : Box H' p := by
  obtain ⟨x, y, z, h⟩ := b
  exact ⟨x, y, z, e _ _ h⟩
theorem Box.but {H H' : Hp} {p l : Addr} (b : Box H p) (e : But l H H') (n : p ≠ l) : Box H' p := by
  obtain ⟨x, y, z, h⟩ := b
  exact ⟨x, y, z, e _ _ n h⟩
/-- take(box, m): a number from 0 to m - 1 -/
def spTake : Sp := fun vs H Q _ => ∃ (p : Addr) (m : Int), vs = [.ref p, .int m] ∧ Box H p ∧ 0 < m ∧ m.natAbs.log2 < 9000 ∧ ∀ (d : Int) (H' : Hp), 0 ≤ d → d < m → But p H H' → Box H' p → Q (.int d) H'
/-- box(script, k): a new box -/
def spBox (K : PySem.W.Frag) : Sp := fun vs H Q _ => ∃ (s : Addr) (ns : List Int) (k : Nat), vs = [.ref s, .int (k : Int)] ∧ SqL K H s (ns.map V.int) ∧ ns.length ≤ 63 ∧ ∀ (p : Addr) (H' : Hp), H p = none → Ex H H' → Box H' p → Q (.ref p) H'
theorem fmod_pos {a m : Int} (h : 0 < m) : 0 ≤ a.fmod m ∧ a.fmod m < m := by
  rw [Int.fmod_eq_emod_of_nonneg a (Int.le_of_lt h)]
  exact ⟨Int.emod_nonneg _ (Int.ne_of_gt h), Int.emod_lt_of_pos _ h⟩
theorem at_ints {ns : List Int} {i : Nat} (h : i < ns.length) : atI (ns.map V.int) (i : Int) = some (.int ns[i]) := atI_nat (by rw [List.getElem?_map, List.getElem?_eq_getElem h]; rfl)
end Bk

set_option Elab.async false
set_option linter.all false
set_option maxRecDepth 100000
set_option maxHeartbeats 4000000
/-! Bk7: sizes of numbers, the found pair's parts, values told apart. -/
namespace Bk
open PySem PySem.Spec PyProof.Rows L2
/-- within n bits -/
def Bits (n : Nat) (i : Int) : Prop := i.natAbs < 2 ^ n
instance instBits (n : Nat) (i : Int) : Decidable (Bits n i) := inferInstanceAs (Decidable (i.natAbs < 2 ^ n))
theorem Bits.le {n m : Nat} {i : Int} (h : Bits n i) (hm : n ≤ m := by decide) : Bits m i := Nat.lt_of_lt_of_le h (Nat.pow_le_pow_right (by decide) hm)
theorem Bits.mul {n m : Nat} {i j : Int} (h : Bits n i) (g : Bits m j) : Bits (n + m) (i * j) := by
  unfold Bits at *
  rw [Int.natAbs_mul, Nat.pow_add]
  exact Nat.mul_lt_mul'' h g
theorem Bits.add {n : Nat} {i j : Int} (h : Bits n i) (g : Bits n j) : Bits (n + 1) (i + j) := by
  unfold Bits at *
  rw [Nat.pow_succ]
  omega
theorem Bits.sub {n : Nat} {i j : Int} (h : Bits n i) (g : Bits n j) : Bits (n + 1) (i - j) := by
  unfold Bits at *
  rw [Nat.pow_succ]
  omega
theorem Bits.abs {n : Nat} {i : Int} (h : Bits n i) : Bits n (i.natAbs : Nat) := by
  unfold Bits at *
  omega
theorem Bits.of_le {n : Nat} {i j : Int} (h : Bits n j) (g : i.natAbs ≤ j.natAbs) : Bits n i := Nat.lt_of_le_of_lt g h
theorem Bits.log {n : Nat} {i : Int} (h : Bits n i) (hn : 0 < n := by decide) : i.natAbs.log2 < n := by
  by_cases c : i.natAbs = 0
  · rw [c]
    exact hn
  · exact (Nat.log2_lt c).2 h
theorem Bits.cm {n m : Nat} {i j : Int} (h : Bits n i) (g : Bits m j) (hn : n ≤ 1000 := by decide) (hm : m ≤ 900000 := by decide) : CMm i j := by
  refine .inr (mulL ?_ ?_)
  · exact (h.le hn).log
  · by_cases c : j.natAbs = 0
    · rw [c]
      decide
    · exact Nat.lt_of_lt_of_le ((Nat.log2_lt c).2 g) hm
theorem Bits.fd {n : Nat} {i j : Int} (h : Bits n j) (h0 : j ≠ 0) (hn : n ≤ 9000 := by decide) : CFd i j := by
  refine ⟨h0, ?_⟩
  exact Nat.lt_of_lt_of_le ((Nat.log2_lt (by omega)).2 h) hn
theorem fdiv_le {i j : Int} (h : j ≠ 0) (d : j ∣ i) : (i.fdiv j).natAbs ≤ i.natAbs := by
  rw [Int.fdiv_eq_ediv_of_dvd d]
  exact Int.natAbs_ediv_le_natAbs _ _
theorem Bits.of_fdiv {n : Nat} {i j : Int} (b : Bits n i) (h : j ≠ 0) (d : j ∣ i) : Bits n (i.fdiv j) := b.of_le (fdiv_le h d)
theorem gcd_bits {n : Nat} {u l : Int} (h : l ≠ 0) (b : Bits n l) : Bits n (Int.gcd u l : Nat) := by
  refine b.of_le ?_
  rw [Int.natAbs_natCast]
  exact Nat.le_of_dvd (by omega) (Nat.gcd_dvd_right u.natAbs l.natAbs)
/-- what the two parts are divided by -/
def fpt (u l : Int) : Int := if l < 0 then 0 - (Int.gcd u l : Nat) else (Int.gcd u l : Nat)
theorem fpt_ne {u l : Int} (h : l ≠ 0) : fpt u l ≠ 0 := by
  have e : Int.gcd u l ≠ 0 := fun z => h (Int.gcd_eq_zero_iff.1 z).2
  unfold fpt
  split <;> omega
theorem fpt_bits {n : Nat} {u l : Int} (h : l ≠ 0) (b : Bits n l) : Bits n (fpt u l) := by
  have g := gcd_bits (u := u) h b
  unfold fpt
  split
  · unfold Bits at *
    omega
  · exact g
theorem fpt_l (u l : Int) : fpt u l ∣ l := by
  unfold fpt
  split
  · rw [Int.zero_sub]
    exact Int.neg_dvd.2 (Int.gcd_dvd_right u l)
  · exact Int.gcd_dvd_right u l
theorem fpt_u (u l : Int) : fpt u l ∣ u := by
  unfold fpt
  split
  · rw [Int.zero_sub]
    exact Int.neg_dvd.2 (Int.gcd_dvd_left u l)
  · exact Int.gcd_dvd_left u l
/-- u / l in lowest terms -/
def fru (u l : Int) : Int := u.fdiv (fpt u l)
def frl (u l : Int) : Int := l.fdiv (fpt u l)
theorem fru_bits {n : Nat} {u l : Int} (h : l ≠ 0) (b : Bits n u) : Bits n (fru u l) := b.of_fdiv (fpt_ne h) (fpt_u u l)
theorem frl_bits {n : Nat} {u l : Int} (h : l ≠ 0) (b : Bits n l) : Bits n (frl u l) := b.of_fdiv (fpt_ne h) (fpt_l u l)
theorem frl_pos {u l : Int} (h : l ≠ 0) : 0 < frl u l := by
  have e : frl u l * fpt u l = l := by
    unfold frl
    rw [Int.fdiv_eq_ediv_of_dvd (fpt_l u l)]
    exact Int.ediv_mul_cancel (fpt_l u l)
  have g : 0 < Int.gcd u l := Nat.pos_of_ne_zero fun z => h (Int.gcd_eq_zero_iff.1 z).2
  by_cases c : l < 0
  · have f : fpt u l = 0 - (Int.gcd u l : Nat) := if_pos c
    rw [f] at e
    by_cases k : 0 < frl u l
    · exact k
    · exfalso
      have : 0 ≤ frl u l * (0 - (Int.gcd u l : Nat)) := Int.mul_nonneg_of_nonpos_of_nonpos (by omega) (by omega)
      omega
  · have f : fpt u l = (Int.gcd u l : Nat) := if_neg c
    rw [f] at e
    by_cases k : 0 < frl u l
    · exact k
    · exfalso
      have : frl u l * (Int.gcd u l : Nat) ≤ 0 := Int.mul_nonpos_of_nonpos_of_nonneg (by omega) (by omega)
      omega
def spAr (CN : Addr) (fu fl : Int → Int → Int → Int → Int) : Sp := fun vs H Q E => ∃ (p r : Addr) (a b c d : Int), vs = [.ref p, .ref r] ∧ H p = some (.tup [.int a, .int b]) ∧ H r = some (.tup [.int c, .int d]) ∧ Bits 500 a ∧ Bits 500 b ∧ Bits 500 c ∧ Bits 500 d ∧
  (fl a b c d = 0 → E (.ref CN) none H) ∧ (fl a b c d ≠ 0 → ∀ p, H p = none → Q (.ref p) (upd H p (.tup [.int (fru (fu a b c d) (fl a b c d)), .int (frl (fu a b c d) (fl a b c d))])))
def spLess : Sp := fun vs H Q _ => ∃ (p r : Addr) (a b c d : Int), vs = [.ref p, .ref r] ∧ H p = some (.tup [.int a, .int b]) ∧ H r = some (.tup [.int c, .int d]) ∧ Bits 500 a ∧ Bits 500 b ∧ Bits 500 c ∧ Bits 500 d ∧ Q (.bl (decide (a * d < c * b))) H
def spFrac (CN : Addr) : Sp := fun vs H Q E => ∃ u l : Int, vs = [.int u, .int l] ∧ Bits 2000 u ∧ Bits 2000 l ∧ (l = 0 → E (.ref CN) none H) ∧ (l ≠ 0 → ∀ p, H p = none → Q (.ref p) (upd H p (.tup [.int (fru u l), .int (frl u l)])))
end Bk

set_option Elab.async false
set_option linter.all false
set_option maxRecDepth 100000
set_option maxHeartbeats 4000000
/-! Bk8: two values of one reading are alike: what the laws' comparison needs. -/
namespace Bk
open PySem PySem.Spec PyProof.Rows L2
def D.tag : D → String
  | .non => "NoneType" | .bl _ => "bool" | .int _ => "int" | .str _ => "str" | .tup _ => "tuple" | .lst _ => "list"
def D.isT : D → Bool
  | .tup _ => true | _ => false
def D.isL : D → Bool
  | .lst _ => true | _ => false
def D.isB : D → Bool
  | .bl _ => true | _ => false
def D.isI : D → Bool
  | .int _ => true | .bl _ => true | _ => false
theorem Rep.ty {K : PySem.W.Frag} {H : Hp} {d : D} {v : V} (h : Rep H d v) : Ty K H v d.tag := by
  cases d <;> simp only [Rep] at h
  · subst h; exact .non
  · subst h; exact .bl _
  · subst h; exact .int _
  · subst h; exact .str _
  · obtain ⟨a, vs, rfl, e, _⟩ := h; exact .tup e
  · obtain ⟨a, vs, rfl, e, _⟩ := h; exact .lst e
theorem kit_tup (d : D) : kitB d.tag "tuple" = some d.isT := by cases d <;> simp only [D.tag, D.isT, D.isL, D.isB, D.isI] <;> decide +kernel
theorem kit_lst (d : D) : kitB d.tag "list" = some d.isL := by cases d <;> simp only [D.tag, D.isT, D.isL, D.isB, D.isI] <;> decide +kernel
theorem kit_bl (d : D) : kitB d.tag "bool" = some d.isB := by cases d <;> simp only [D.tag, D.isT, D.isL, D.isB, D.isI] <;> decide +kernel
theorem kit_int (d : D) : kitB d.tag "int" = some d.isI := by cases d <;> simp only [D.tag, D.isT, D.isL, D.isB, D.isI] <;> decide +kernel
section
variable {K : PySem.W.Frag} {H H0 H1 H2 : Hp} {Q : VK} {d : D} {v w : V}
theorem g_isD {T : String} {b : Bool} (r : Rep H d v) (e : kitB d.tag T = some b) (h : Q (.bl b) H) : uIs K [v, .ty T] H Q := ⟨_, b, r.ty, e, h⟩
theorem g_isTD {p : Addr} (r : Rep H d v) (hp : H p = some (.tup [.ty "tuple", .ty "list"])) (h : Q (.bl (d.isT || d.isL)) H) : uIsT K [v, .ref p] H Q := ⟨_, _, _, _, _, hp, r.ty, kit_tup d, kit_lst d, h⟩
theorem g_neBB {b : Bool} (h : Q (.bl false) H) : rNe (.bl b) (.bl b) H Q := ⟨rfl, by rw [decide_eq_true rfl]; exact h⟩
theorem g_neD (r : Rep H0 d v) (r' : Rep H0 d w) (ht : (d.isT || d.isL) = false) (h : Q (.bl false) H) : rNe v w H Q := by
  cases d <;> simp only [Rep] at r r'
  · subst r; subst r'; exact ⟨rfl, by rw [decide_eq_true rfl]; exact h⟩
  · subst r; subst r'; exact ⟨rfl, by rw [decide_eq_true rfl]; exact h⟩
  · subst r; subst r'; exact ⟨rfl, by rw [decide_eq_true rfl]; exact h⟩
  · subst r; subst r'; exact ⟨rfl, by rw [decide_eq_true rfl]; exact h⟩
  · cases ht
  · cases ht
theorem g_pop {l : Addr} {xs : List V} {y : V} (hl : H l = some (.lst (xs ++ [y]))) (h : Q y (upd H l (.lst xs))) : rPop (.ref l) [] H Q := by
  refine ⟨l, _, y, rfl, rfl, hl, ?_, ?_⟩
  · rw [List.length_append, List.length_singleton, Nat.add_sub_cancel, List.getElem?_append_right (Nat.le_refl _), Nat.sub_self]
    rfl
  · rw [List.dropLast_concat]
    exact h
theorem g_ext {l b : Addr} {xs zs : List V} (hl : H l = some (.lst xs)) (hb : H b = some (.lst zs)) (hz : xs.length + zs.length ≤ 1000000) (h : Q .non (upd H l (.lst (xs ++ zs)))) : rExtend (.ref l) [.ref b] H Q :=
  ⟨l, b, xs, zs, rfl, rfl, hl, hb, Nat.le_trans hz (by decide), h⟩
end
section
variable {K : PySem.W.Frag} {H H0 H1 H2 : Hp} {Q : VK} {d : D} {v w : V}
theorem D.open {d : D} (k : (d.isT || d.isL) = true) (r : Rep H0 d v) (r' : Rep H0 d w) : ∃ (a b : Addr) (ds : List D) (xs ys : List V), v = .ref a ∧ w = .ref b ∧ Reps H0 ds xs ∧ Reps H0 ds ys ∧ d.size = 1 + D.sizes ds ∧ ((H0 a = some (.tup xs) ∧ H0 b = some (.tup ys)) ∨ (H0 a = some (.lst xs) ∧ H0 b = some (.lst ys))) := by
  cases d <;> simp only [Rep] at r r'
  · cases k
  · cases k
  · cases k
  · cases k
  · rename_i ds
    obtain ⟨a, xs, rfl, ha, ra⟩ := r
    obtain ⟨b, ys, rfl, hb, rb⟩ := r'
    exact ⟨a, b, ds, xs, ys, rfl, rfl, ra, rb, by simp only [D.size], .inl ⟨ha, hb⟩⟩
  · rename_i ds
    obtain ⟨a, xs, rfl, ha, ra⟩ := r
    obtain ⟨b, ys, rfl, hb, rb⟩ := r'
    exact ⟨a, b, ds, xs, ys, rfl, rfl, ra, rb, by simp only [D.size], .inr ⟨ha, hb⟩⟩
theorem Reps.len2 {ds : List D} {xs ys : List V} (h : Reps H ds xs) (h' : Reps H ds ys) : xs.length = ys.length := h.len.trans h'.len.symm
theorem both_ex {a b : Addr} {xs ys : List V} (e : Ex H0 H) (h : (H0 a = some (.tup xs) ∧ H0 b = some (.tup ys)) ∨ (H0 a = some (.lst xs) ∧ H0 b = some (.lst ys))) : (H a = some (.tup xs) ∧ H b = some (.tup ys)) ∨ (H a = some (.lst xs) ∧ H b = some (.lst ys)) := by
  rcases h with ⟨h1, h2⟩ | ⟨h1, h2⟩
  · exact .inl ⟨e _ _ h1, e _ _ h2⟩
  · exact .inr ⟨e _ _ h1, e _ _ h2⟩
theorem both_sq {a b : Addr} {xs ys : List V} (h : (H a = some (.tup xs) ∧ H b = some (.tup ys)) ∨ (H a = some (.lst xs) ∧ H b = some (.lst ys))) : (SqT K H a xs ∧ SqT K H b ys) ∨ (SqL K H a xs ∧ SqL K H b ys) := by
  rcases h with ⟨h1, h2⟩ | ⟨h1, h2⟩
  · exact .inl ⟨sqT h1, sqT h2⟩
  · exact .inr ⟨sqL h1, sqL h2⟩
theorem g_len2a {a b : Addr} {xs ys : List V} (h : (H a = some (.tup xs) ∧ H b = some (.tup ys)) ∨ (H a = some (.lst xs) ∧ H b = some (.lst ys))) (q : Q (.int (xs.length : Nat)) H) : uLen K [.ref a] H Q := by
  rcases h with ⟨h1, h2⟩ | ⟨h1, h2⟩
  · exact g_lenT h1 q
  · exact g_lenL h1 q
theorem g_len2b {a b : Addr} {xs ys : List V} (h : (H a = some (.tup xs) ∧ H b = some (.tup ys)) ∨ (H a = some (.lst xs) ∧ H b = some (.lst ys))) (q : Q (.int (ys.length : Nat)) H) : uLen K [.ref b] H Q := by
  rcases h with ⟨h1, h2⟩ | ⟨h1, h2⟩
  · exact g_lenT h2 q
  · exact g_lenL h2 q
theorem g_lz {ta : TA} {σ : L2.St} (h : ta σ H fun vs H1 => ∃ a b xs ys, vs = [.ref a, .ref b] ∧ xs.length = ys.length ∧ ((SqT K H1 a xs ∧ SqT K H1 b ys) ∨ (SqL K H1 a xs ∧ SqL K H1 b ys)) ∧
  ∀ (H' : Hp) (p : Addr) (ts : List Addr), Ex H1 H' → H1 p = none → (∀ t ∈ ts, H1 t = none) → p ∉ ts → H' p = some (.lst (ts.map V.ref)) → Prz H' ts xs ys → Q (.ref p) H') : uLZ K ta σ H Q := h
end
/-- a pair of two of one reading -/
def Pr (H0 H1 : Hp) (d : D) (t : V) : Prop := ∃ a v w, t = .ref a ∧ H1 a = some (.tup [v, w]) ∧ Rep H0 d v ∧ Rep H0 d w
/-- a pile of such, of a size in all -/
inductive PrS (H0 H1 : Hp) : Nat → List V → Prop where
  | nil : PrS H0 H1 0 []
  | snoc {n : Nat} {ts : List V} {d : D} {t : V} (h : PrS H0 H1 n ts) (r : Pr H0 H1 d t) : PrS H0 H1 (n + d.size) (ts ++ [t])
theorem PrS.len {H0 H1 : Hp} {n : Nat} {ts : List V} (h : PrS H0 H1 n ts) : ts.length ≤ n := by
  induction h with
  | nil => exact Nat.le_refl _
  | @snoc n ts d t h r ih =>
    have := d.size_pos
    rw [List.length_append, List.length_singleton]
    omega
theorem PrS.tk {H0 H1 H2 : Hp} {n : Nat} {ts : List V} (e : Tk H1 H2) (h : PrS H0 H1 n ts) : PrS H0 H2 n ts := by
  induction h with
  | nil => exact .nil
  | snoc h r ih =>
    obtain ⟨a, v, w, rfl, ha, rv, rw'⟩ := r
    exact .snoc ih ⟨a, v, w, rfl, e _ _ ha, rv, rw'⟩
theorem PrS.ext {H0 H1 : Hp} : ∀ {ds : List D} {xs ys : List V} {tl : List Addr} {n : Nat} {ts : List V}, Reps H0 ds xs → Reps H0 ds ys → Prz H1 tl xs ys → PrS H0 H1 n ts → PrS H0 H1 (n + D.sizes ds) (ts ++ tl.map V.ref)
  | [], xs, ys, tl, n, ts, hx, hy, hp, h => by
    simp only [Reps] at hx hy
    subst hx
    have e : tl = [] := List.eq_nil_of_length_eq_zero hp.1
    subst e
    simpa [D.sizes] using h
  | d :: ds, xs, ys, tl, n, ts, hx, hy, hp, h => by
    simp only [Reps] at hx hy
    obtain ⟨x, xr, rfl, rx, hx⟩ := hx
    obtain ⟨y, yr, rfl, ry, hy⟩ := hy
    cases tl with
    | nil => cases hp.1
    | cons t tl =>
      obtain ⟨x', y', ex, ey, ht⟩ := hp.2 0 t rfl
      cases ex
      cases ey
      have hp' : Prz H1 tl xr yr := ⟨Nat.succ.inj hp.1, fun j u hu => by
        obtain ⟨a, b, q⟩ := hp.2 (j + 1) u hu
        exact ⟨a, b, q⟩⟩
      have z := PrS.ext hx hy hp' (h.snoc ⟨t, x, y, rfl, ht, rx, ry⟩)
      have e1 : n + D.sizes (d :: ds) = n + d.size + D.sizes ds := by simp only [D.sizes]; omega
      have e2 : ts ++ (t :: tl).map V.ref = ts ++ [V.ref t] ++ tl.map V.ref := by simp
      rw [e1, e2]
      exact z
/-- what the comparison promises -/
def spAlike : Sp := fun vs H Q _ => ∃ (d : D) (v w : V), vs = [v, w] ∧ Rep H d v ∧ Rep H d w ∧ d.size ≤ 400000 ∧ ∀ H', Ex H H' → Q (.bl true) H'
theorem prz_len {H : Hp} {ts : List Addr} {xs ys : List V} (h : Prz H ts xs ys) : (ts.map V.ref).length = xs.length := by rw [List.length_map]; exact h.1
theorem sizes_len : ∀ ds : List D, ds.length ≤ D.sizes ds
  | [] => Nat.le_refl _
  | d :: ds => by
    have := sizes_len ds
    have := d.size_pos
    simp only [D.sizes, List.length_cons]
    omega
/-! ### isinstance of a caught error -/
theorem kit_sub {K : PySem.W.Frag} {C : Addr} {T : String} {b : Bool} (h : PySem.W.subIn K (.ref C) (.type T) = some b) (hm : PySem.W.kitMeta T = true := by decide +kernel) : PySem.W.kitOne K (.ref C) (.type T) = some b := by
  unfold PySem.W.kitOne PySem.W.kitCls
  show (if PySem.W.kitMeta T = true then PySem.W.subIn K (.ref C) (.type T) else none) = some b
  rw [if_pos hm]
  exact h
theorem kit_own {K : PySem.W.Frag} {C D : Addr} {b : Bool} (h : PySem.W.subIn K (.ref C) (.ref D) = some b) (hs : PySem.W.subIn K (.ref C) (.ref C) = some true) (hi : PySem.W.isClsIn K D = true) (ht : PySem.W.typeIn K (.ref D) = some (.type "type")) : PySem.W.kitOne K (.ref C) (.ref D) = some b := by
  unfold PySem.W.kitOne
  by_cases c : (Value.ref C == Value.ref D) = true
  · have e : Value.ref C = Value.ref D := beq_iff_eq.mp c
    rw [e] at h
    rw [if_pos c]
    cases e
    rw [h] at hs
    exact hs.symm
  · rw [if_neg c]
    have z : ((PySem.W.clsIn K D).isSome && PySem.W.typeIn K (.ref D) == some (.type "type")) = true := by
      have z1 : (PySem.W.clsIn K D).isSome = true := hi
      rw [z1, ht] <;> rfl
    show (if ((PySem.W.clsIn K D).isSome && PySem.W.typeIn K (.ref D) == some (.type "type")) = true then PySem.W.subIn K (.ref C) (.ref D) else none) = some b
    rw [if_pos z]
    exact h
def uIsE (K : PySem.W.Frag) (D a : Addr) (cls : Value) (d : Option Addr) : List V → Hp → VK → Prop := fun xs H Q => cls = .ref D ∧ d = none ∧ rIsE K D a xs H Q
theorem uk_isE {X : Cx} {a D : Addr} {oe : Obj} {pn : List (Addr × Obj)} {cls : Value} {d : Option Addr} (C : ExcC X.K D) (hz : Zc cls d oe) (hf : ∃ vs, oe.data = .fields vs) : CallR (X.suite a ((a, oe) :: pn)) (.builtin "isinstance") (uIsE X.K D a cls d) := by
  intro pins s σ H xs us Q I r h
  obtain ⟨rfl, rfl, h⟩ := h
  exact call_isE C hz hf pins s σ H xs us Q I r h
theorem g_isET {K : PySem.W.Frag} {D a : Addr} {T : String} {b : Bool} {H : Hp} {Q : VK} (h : PySem.W.kitOne K (.ref D) (.type T) = some b) (q : Q (.bl b) H) : uIsE K D a (.ref D) none [.ref a, .ty T] H Q := ⟨rfl, rfl, _, _, b, rfl, fun u z => z, h, q⟩
theorem g_isEC {K : PySem.W.Frag} {D C a : Addr} {b : Bool} {H : Hp} {Q : VK} (h : PySem.W.kitOne K (.ref D) (.ref C) = some b) (q : Q (.bl b) H) : uIsE K D a (.ref D) none [.ref a, .ref C] H Q := ⟨rfl, rfl, _, _, b, rfl, fun u z => z, h, q⟩
/-! ### lowest terms, as the laws find them -/
theorem max_fpt {u l : Int} (h : 0 < l) : max 1 (Int.gcd u l : Int) = fpt u l := by
  have g : 0 < Int.gcd u l := Nat.pos_of_ne_zero fun z => by
    have := (Int.gcd_eq_zero_iff.1 z).2
    omega
  unfold fpt
  rw [if_neg (by omega)]
  omega
theorem sgn_of (l : Int) : (1 - 2 * b2z (decide (l < 0)) : Int) = if l < 0 then -1 else 1 := by
  by_cases c : l < 0
  · rw [decide_eq_true c, if_pos c]; rfl
  · rw [decide_eq_false c, if_neg c]; rfl
theorem fpt_sgn {u l : Int} (h : l ≠ 0) : fpt (u * (1 - 2 * b2z (decide (l < 0)))) (l.natAbs : Nat) = (Int.gcd u l : Nat) := by
  have e : fpt (u * (1 - 2 * b2z (decide (l < 0)))) (l.natAbs : Nat) = (Int.gcd (u * (1 - 2 * b2z (decide (l < 0)))) (l.natAbs : Nat) : Nat) := if_neg (by omega)
  rw [e, sgn_of]
  congr 1
  unfold Int.gcd
  rw [Int.natAbs_mul, Int.natAbs_natCast]
  split <;> simp
theorem fru_sgn {u l : Int} (h : l ≠ 0) : fru (u * (1 - 2 * b2z (decide (l < 0)))) (l.natAbs : Nat) = fru u l := by
  unfold fru
  rw [fpt_sgn h, sgn_of]
  unfold fpt
  by_cases c : l < 0
  · rw [if_pos c, if_pos c, Int.zero_sub, Int.mul_neg, Int.mul_one]
    have := Int.neg_fdiv_neg u (-(Int.gcd u l : Nat))
    rw [Int.neg_neg] at this
    exact this
  · rw [if_neg c, if_neg c, Int.mul_one]
theorem frl_sgn {u l : Int} (h : l ≠ 0) : frl (u * (1 - 2 * b2z (decide (l < 0)))) (l.natAbs : Nat) = frl u l := by
  unfold frl
  rw [fpt_sgn h]
  unfold fpt
  by_cases c : l < 0
  · have e : ((l.natAbs : Nat) : Int) = -l := by omega
    rw [if_pos c, e, Int.zero_sub]
    have := Int.neg_fdiv_neg l (-(Int.gcd u l : Nat))
    rw [Int.neg_neg] at this
    exact this
  · have e : ((l.natAbs : Nat) : Int) = l := by omega
    rw [if_neg c, e]
theorem b2z_bits (b : Bool) : Bits 1 (b2z b) := by cases b <;> decide
/-- lowest(u, l), l above nought -/
def spLow : Sp := fun vs H Q _ => ∃ u l : Int, vs = [.int u, .int l] ∧ Bits 2000 u ∧ Bits 2000 l ∧ 0 < l ∧ ∀ p, H p = none → Q (.ref p) (upd H p (.tup [.int (fru u l), .int (frl u l)]))
/-- the fraction, or none -/
def spMade : Sp := fun vs H Q _ => ∃ u l : Int, vs = [.int u, .int l] ∧ Bits 900 u ∧ Bits 900 l ∧ (l = 0 → Q .non H) ∧ (l ≠ 0 → ∀ p, H p = none → Q (.ref p) (upd H p (.tup [.int (fru u l), .int (frl u l)])))
theorem Rep.two {H : Hp} {a : Addr} {x y : V} {d e : D} (h : H a = some (.tup [x, y])) (r : Rep H d x) (s : Rep H e y) : Rep H (.tup [d, e]) (.ref a) := by
  simp only [Rep, Reps]
  exact ⟨a, _, rfl, h, x, _, rfl, r, y, _, rfl, s, rfl⟩
theorem Rep.three {H : Hp} {a : Addr} {x y z : V} {d e f : D} (h : H a = some (.tup [x, y, z])) (r : Rep H d x) (s : Rep H e y) (t : Rep H f z) : Rep H (.tup [d, e, f]) (.ref a) := by
  simp only [Rep, Reps]
  exact ⟨a, _, rfl, h, x, _, rfl, r, y, _, rfl, s, z, _, rfl, t, rfl⟩
theorem Rep.i {H : Hp} (n : Int) : Rep H (.int n) (.int n) := by simp only [Rep]
theorem Rep.s {H : Hp} (n : Str) : Rep H (.str n) (.str n) := by simp only [Rep]
theorem Rep.b {H : Hp} (n : Bool) : Rep H (.bl n) (.bl n) := by simp only [Rep]
theorem Rep.n {H : Hp} : Rep H .non .non := by simp only [Rep]
/-- a drawn whole number -/
def spWhole : Sp := fun vs H Q _ => ∃ p : Addr, vs = [.ref p] ∧ Box H p ∧ ∀ (i : Int) (H' : Hp), Bits 110 i → But p H H' → Box H' p → Q (.int i) H'
theorem fru_one (u : Int) : fru u 1 = u := by
  unfold fru fpt
  rw [if_neg (by decide), Int.gcd_one_right]
  exact Int.fdiv_one u
theorem frl_one (u : Int) : frl u 1 = 1 := by
  unfold frl fpt
  rw [if_neg (by decide), Int.gcd_one_right]
  rfl
/-- a fraction of the laws, as it stands -/
def Fr (H : Hp) (p : Addr) (a b : Int) : Prop := H p = some (.tup [.int a, .int b]) ∧ Bits 300 a ∧ Bits 300 b ∧ 0 < b
def spBoth : Sp := fun vs H Q _ => ∃ (p r : Addr) (a b c d : Int), vs = [.ref p, .ref r] ∧ Fr H p a b ∧ Fr H r c d ∧ ∀ H', Ex H H' → Q (.bl true) H'
theorem size2 (x y : Int) : (D.tup [.int x, .int y]).size ≤ 400000 := by
  simp only [D.size, D.sizes]
  decide
/-- such a one, as a value -/
def Good (H : Hp) (v : V) : Prop := ∃ (p : Addr) (a b : Int), v = .ref p ∧ Fr H p a b
theorem Good.ex {H H' : Hp} {v : V} (e : Ex H H') (g : Good H v) : Good H' v := by
  obtain ⟨p, a, b, rfl, h, x⟩ := g
  exact ⟨p, a, b, rfl, e _ _ h, x⟩
theorem Good.tk {H H' : Hp} {v : V} (e : Tk H H') (g : Good H v) : Good H' v := by
  obtain ⟨p, a, b, rfl, h, x⟩ := g
  exact ⟨p, a, b, rfl, e _ _ h, x⟩
theorem Good.fr {H : Hp} {p : Addr} {u l : Int} (h : H p = some (.tup [.int (fru u l), .int (frl u l)])) (hl : l ≠ 0) (bu : Bits 300 u) (bl : Bits 300 l) : Good H (.ref p) := ⟨p, _, _, rfl, h, fru_bits hl bu, frl_bits hl bl, frl_pos hl⟩
def MadeV (H : Hp) (u l : Int) (v : V) : Prop := (l = 0 ∧ v = .non) ∨ (l ≠ 0 ∧ ∃ p, v = .ref p ∧ H p = some (.tup [.int (fru u l), .int (frl u l)]))
theorem spMade.of {H : Hp} {Q : VK} {E : XK} {u l : Int} (bu : Bits 900 u) (bl : Bits 900 l) (h : ∀ v H', Ex H H' → MadeV H' u l v → Q v H') : spMade [.int u, .int l] H Q E :=
  ⟨u, l, rfl, bu, bl, fun z => h _ _ (Ex.refl _) (.inl ⟨z, rfl⟩), fun z p hp => h _ _ (Ex.new hp) (.inr ⟨z, p, rfl, upd_same⟩)⟩
section
variable {K : PySem.W.Frag} {H : Hp} {Q : VK} {σ : L2.St}
theorem g_sl {r : V → Option Int → Option Int → Hp → VK → Prop} {te : TE} {tl th : TO} (h : te σ H fun x H1 => tl σ H1 fun l H2 => th σ H2 fun u H3 => r x l u H3 Q) : tSl r te tl th σ H Q := h
theorem g_noP {P : Option Int → Hp → Prop} (h : P none H) : tNoPart σ H P := h
theorem g_slL {a : Addr} {xs : List V} {lo hi : Option Int} (ha : H a = some (.lst xs)) (h : ∀ p, H p = none → Q (.ref p) (upd H p (.lst (cutV xs lo hi)))) : rSlL K (.ref a) lo hi H Q := ⟨a, xs, rfl, sqL ha, h⟩
theorem g_catL {a b : Addr} {xs ys : List V} (ha : H a = some (.lst xs)) (hb : H b = some (.lst ys)) (hl : xs.length + ys.length ≤ 1000000) (h : ∀ p, H p = none → Q (.ref p) (upd H p (.lst (xs ++ ys)))) : uAdd K (.ref a) (.ref b) H Q :=
  .inl ⟨a, b, xs, ys, rfl, rfl, ha, hb, Nat.le_trans hl (by decide), h⟩
theorem g_part {te : TE} {P : Option Int → Hp → Prop} (h : te σ H fun x H1 => ∃ i, x = .int i ∧ P (some i) H1) : tPart te σ H P := h
theorem g_exI {i : Int} {P : Int → Prop} (h : P i) : ∃ j, V.int i = .int j ∧ P j := ⟨i, rfl, h⟩
end
theorem g_zipA {K : PySem.W.Frag} {ta : TA} {σ : L2.St} {H : Hp} {R : It → Hp → Prop} (h : ta σ H fun vs H1 => ∃ a b xs ys, vs = [.ref a, .ref b] ∧ ((SqL K H1 a xs ∧ SqL K H1 b ys ∧ R (Itz K a b) H1) ∨ (SqT K H1 a xs ∧ SqT K H1 b ys ∧ R (RZ.ItzT K a b) H1))) : RZ.iZipA K ta σ H R := h
theorem cutV_mem {xs : List V} {lo hi : Option Int} {v : V} (h : v ∈ cutV xs lo hi) : v ∈ xs := List.mem_of_mem_drop (List.mem_of_mem_take h)
end Bk

set_option Elab.async false
set_option linter.all false
set_option maxRecDepth 100000
set_option maxHeartbeats 4000000
/-! Bk9: enumerate over a tuple. -/
namespace Bk
open PySem PySem.Spec PyProof.Rows L2
open AutoSeq1 (wpAny_loadPart')
def tupO (dct : Option Addr) (xs : Array Value) (n : Nat) (sl : Array (Option Value)) : Obj := { cls := .type "tuple", dict := dct, data := .seq xs n, slots := sl }
def tuiO (l : Addr) : Obj := { cls := .type "tuple_iterator", data := .fields #[.ref l, .int 0 0] }
def enuO (i : Addr) : Obj := { cls := .type "enumerate", data := .fields #[.none, .bool false, .ref i, rawInt 0, .none, .none] }
theorem meets_enumT (l : Addr) (xs : Array Value) (n : Nat) (dct : Option Addr) (sl : Array (Option Value)) :
    Meets (Builtin.«enumerate.__new__» ⟨[.type "enumerate", .ref l], []⟩) (fun _ R s => s.heap.get? l = some (tupO dct xs n sl) ∧ R (.ok (.ret (.ref (s.heap.push (tuiO l)).objs.size))) { s with heap := (s.heap.push (tuiO l)).push (enuO s.heap.objs.size) }) :=
  .of_wp fun prog w A R s z => by
    obtain ⟨hp, ge, dr, tk, os⟩ := s
    obtain ⟨hl, h⟩ := z
    have s0 := sub_enumerate
    unfold tupO at hl
    have hT : Heap.IsTuple (Shared.heap ⟨hp, ge, dr, tk, os⟩) l xs := ⟨_, hl, rfl, n, rfl⟩
    wp_walk using (wpAny_loadPart' hl)
    (refine wpAny_stack_any fun st => wpAny_pure ?_); split
    · rename_i c _ _ _ _ _
      cases (c == Value.type "enumerate") <;> (wp_walk using (wpAny_loadPart' hl), (wpAny_pyIter_tuple hT)) <;> exact ⟨_, rfl, h⟩
    · wp_walk using (wpAny_loadPart' hl), (wpAny_pyIter_tuple hT)
      exact ⟨_, rfl, h⟩
section
variable {prog : Program} {w : World} {A : Around} {E : Value → Shared → Prop} {s : Shared}
theorem call_enumT {l : Addr} {xs : Array Value} {Q : Value → Shared → Prop} (hT : s.heap.IsTuple l xs)
    (h : ∀ g, IsEnum g (s.heap.objs.size + 1) s.heap.objs.size 0 .none → g.IsTupleIter s.heap.objs.size l 0 → (∀ c o, s.heap.get? c = some o → g.get? c = some o) → Q (.ref (s.heap.objs.size + 1)) { s with heap := g }) :
    wpAny (model prog w) A (call (.type "enumerate") [.ref l]) Q E s := by
  obtain ⟨⟨c0, dc, da, sl⟩, hl, e1, n, e2⟩ := hT
  cases (show c0 = .type "tuple" from e1)
  cases (show da = .seq xs n from e2)
  refine callType_new F.called_enumerate (by decide) (F.typeCall_enumerate_1 _) (F.newCall_enumerate_1 _) (fun x => F.args_object_init_2 x _) F.entry_enumerate_new (meets_enumT l xs n dc sl) ⟨hl, ?_⟩
  have z1 : (s.heap.push (tuiO l)).objs.size = s.heap.objs.size + 1 := Heap.size_push ..
  have g2 : ((s.heap.push (tuiO l)).push (enuO s.heap.objs.size)).get? (s.heap.push (tuiO l)).objs.size = some (enuO s.heap.objs.size) := Heap.get?_push_size _ rfl
  have g1 : ((s.heap.push (tuiO l)).push (enuO s.heap.objs.size)).get? s.heap.objs.size = some (tuiO l) := Heap.get?_push_of_some _ (Heap.get?_push_size _ rfl)
  rw [z1] at g2
  show _ ∧ _
  rw [z1]
  exact ⟨⟨_, g2, rfl⟩, h _ g2 ⟨_, g1, rfl, rfl⟩ fun c o x => Heap.get?_push_of_some _ (Heap.get?_push_of_some _ x)⟩
theorem enumT_end {e it l : Addr} {i : Nat} {xs : Array Value} {old : Value} {Q : Option Value → Shared → Prop} (hh : A.handled = none) (he : IsEnum s.heap e it i old) (hit : s.heap.IsTupleIter it l i) (hT : s.heap.IsTuple l xs) (hx : xs[i]? = none)
    (hQ : ∀ g, Heap.ExtBut it s.heap g → Q none { s with heap := g }) : wpAny (model prog w) A (pyNext (.ref e)) Q E s := by
  have ty : s.TypeIs (.ref e) "enumerate" := ⟨_, he, rfl⟩
  unfold pyNext
  refine wpAny_bind (wpAny_attempt (wpAny_callSpecial?_slot (name := Str.ofString "__next__") ty F.slot_enumerate_next (wpAny_call_entry F.slot_enumerate_next ty F.entry_enumerate_next ?_ (F.args_enumerate_next_1 _))))
  show wpAny _ _ (field (.ref e) 2 >>= fun _ => _) _ _ s
  refine wpAny_bind (wpAny_field he rfl (x := .ref it) rfl (wpAny_bind (wpAny_nextOf_tuple_end (by exact hh) hit hT hx fun g z eb ⟨o, ho, hc⟩ => ?_)))
  exact wpAny_bind (wpAny_isInstance (T := "StopIteration") (b := true) ⟨o, ho, hc⟩ isSubtype_stop (wpAny_pure (hQ _ eb)))
end
/-- the turns of enumerate over the tuple at a -/
def ItE (K : PySem.W.Frag) (a : Addr) : It :=
  ⟨fun i H => ∃ (xs : List V) (x : V), SqT K H a xs ∧ xs[i]? = some x,
    fun i H v H' => ∃ (T : Addr) (x : V), v = .ref T ∧ H T = none ∧ H' = upd H T (.tup [.int (i : Nat), x]) ∧ ∀ xs, SqT K H a xs → xs[i]? = some x,
    fun i H => ∃ xs : List V, SqT K H a xs ∧ xs.length ≤ i⟩
theorem turn_enumT {P : Program} {w : World} {K : PySem.W.Frag} {elts : List Expr} {kk : Nat} {tpos : Pos} (a e it : Addr) (nt : a ≠ it) (ea : e ≠ a) :
    Turn P w K (.Tuple elts kk tpos) (ItE K a) [e, it] e (fun i h => (∃ old, IsEnum h e it ((i : Nat) : Int) old) ∧ h.IsTupleIter it a i ∧ e ≠ it) where
  mem := by simp
  obj := fun i h st b hb => by
    obtain ⟨⟨old, h1⟩, ⟨o, h2, _, h3⟩, _⟩ := st
    rcases (show b = e ∨ b = it by simpa using hb) with rfl | rfl
    · exact ⟨_, h1, fun v q => nomatch q⟩
    · exact ⟨o, h2, fun v q => by rw [h3] at q; cases q⟩
  keep := fun i h h' st k => ⟨st.1.elim fun old z => ⟨old, k e (by simp) _ z⟩, st.2.1.at fun o q => k it (by simp) o q, st.2.2⟩
  item := by
    intro X eP ew eK hc i pins s σ H E I hf st hg
    subst eP ew eK
    obtain ⟨⟨old, he⟩, hit, hne⟩ := st
    obtain ⟨xs, x, hq, hx⟩ := hg
    obtain ⟨its, rv, p, _⟩ := I.tuple hq
    obtain ⟨u, hu, ru⟩ := rv.get hx
    have le := Heap.lt_size he
    have li : it < s.heap.objs.size := hit.elim fun _ q => Heap.lt_size q.1
    have hlt : i < its.toArray.size := by
      rw [List.size_toArray]
      exact (List.getElem?_eq_some_iff.1 hu).1
    refine wpAny_pyNext_enum_itemD (Draws.tuple (A := X.A.in1) (show X.A.in1.handled = none from I.ok.hd hc) it a nt its.toArray) he ⟨hit, p⟩ hlt hne (by simpa using ⟨hne, ea⟩) fun y g tk py ho hst hT hsz hk => ?_
    have ey : y = u := by
      have z : its.toArray[i]? = some u := by simpa using hu
      exact Option.some.inj (py.symm.trans z)
    subst ey
    refine ⟨_, rfl, wpAny_letOwnedTupleGo_enum (s := { s with heap := g, toks := tk + 1 }) ho fun g2 h2 sb => ?_⟩
    have hT2 : g2.get? s.heap.objs.size = some { cls := .type "tuple", data := .seq #[.int i tk, y] } := (sb.2 _ (Nat.ne_of_gt le)).trans hT
    have new : ObjOk X.prog X.w (upd H s.heap.objs.size (.tup [.int (i : Nat), x])) g2 s.heap.objs.size (.tup [.int (i : Nat), x]) := ⟨(show 2 ≤ sizeLine by decide), [.int i tk, y], .cons ⟨_, rfl⟩ (.cons ru .nil), ⟨_, hT2, rfl, _, rfl⟩⟩
    have I1 : Inv X pins σ (upd H s.heap.objs.size (.tup [.int (i : Nat), x])) { s with heap := g2, toks := tk + 1 } := I.turnedNew (ch := [e, it]) (fun b o nb q => (sb.2 b (fun z => nb (by simp [z]))).trans (hk b o (fun z => nb (by simp [z])) (fun z => nb (by simp [z])) q)) hf (Nat.le_refl _) new
    refine ⟨.ref s.heap.objs.size, _, I1, rfl, ⟨_, x, rfl, I.hok.fresh (Nat.le_refl _), rfl, fun ys hy => by rw [I.tuple_inj hy hq]; exact hx⟩, ⟨⟨y, ?_⟩, hst.1.at fun o q => (sb.2 it (Ne.symm hne)).trans q, hne⟩, fun b hb => ?_⟩
    · have z : ((i + 1 : Nat) : Int) = (i : Int) + 1 := Int.natCast_succ i
      rw [z]
      exact h2
    · have lb : b < s.heap.objs.size := by
        rcases (show b = e ∨ b = it by simpa using hb) with rfl | rfl
        · exact le
        · exact li
      rw [upd_ne (Nat.ne_of_lt lb)]
      exact (hf b hb).1
  done := by
    intro X eP ew eK hc i pins s σ H E I hf st hg
    subst eP ew eK
    obtain ⟨⟨old, he⟩, hit, hne⟩ := st
    obtain ⟨xs, hq, hx⟩ := hg
    obtain ⟨its, rv, p, _⟩ := I.tuple hq
    obtain ⟨f0, f1, f2, f3, f4, f5⟩ := hf it (by simp)
    have hl := rv.length
    have i0 : i = its.toArray.size ∨ its.toArray.size < i := by
      rw [List.size_toArray]
      omega
    exact enumT_end (I.ok.hd hc) he hit p (by simp; omega) fun g eb => ⟨rfl, I.turned (t' := s.toks) (fun b o hb q => eb b o hb q) f0 f1 f3 f4 f5⟩
  self := fun A i s Q E st h => let ⟨⟨_, he⟩, _⟩ := st; wpAny_pyIter_enum he h
end Bk

set_option Elab.async false
set_option linter.all false
set_option maxRecDepth 100000
set_option maxHeartbeats 4000000
/-! Bk10: walks over enumerate; in, slices, tuple(..), join, all, dicts by readings that compute. -/
namespace Bk
open PySem PySem.Spec PyProof.Rows L2
def iEnumT (K : PySem.W.Frag) (ta : TA) : TI := fun σ H R => ta σ H fun vs H1 => ∃ a xs, vs = [.ref a] ∧ SqT K H1 a xs ∧ R (ItE K a) H1
section
variable {X : Cx}
theorem pi_enumT {e : Expr} {ta : TA} {p pos tpos : Pos} {elts : List Expr} {kk : Nat} (hg : Gl X "enumerate") (hm : X.mg "enumerate" = none) (ha : PA X [e] ta) (hs : starEach [e] X.env = [(false, eval e X.env)] := by rfl) : PI X (.Tuple elts kk tpos) (.Call (.Name "enumerate" p) [e] [] pos) (iEnumT X.K ta) := by
  refine ⟨fun pins s σ H R I h => ?_⟩
  refine Call_ (ld_blt I hg hm PyProof.Rows.boot_enumerate (PyProof.Rows.callWith_type1 (thn (ha.run pos pins s σ H _ I h) fun us s1 ⟨vs, H1, I1, r1, a, xs, ex, hq, q⟩ => ?_) hs rfl))
  cases ex
  cases r1 with
  | cons r rr =>
    cases rr
    cases r
    obtain ⟨its, rv, p', _⟩ := I1.tuple hq
    obtain ⟨o, ho, _⟩ := id p'
    have la := Heap.lt_size ho
    refine call_enumT (show s1.heap.IsTuple a its.toArray from p') fun g he hit hk => wpAny_pyIter_enum he ?_
    have I2 : Inv X pins σ H1 { s1 with heap := g } := I1.kept (t' := s1.toks) hk
    refine ⟨s1.heap.objs.size + 1, [s1.heap.objs.size + 1, s1.heap.objs.size], _, _, H1, rfl, I2, turn_enumT a (s1.heap.objs.size + 1) s1.heap.objs.size (Nat.ne_of_lt la) (Nat.ne_of_gt (Nat.lt_succ_of_lt la)), ⟨⟨.none, he⟩, hit, Nat.succ_ne_self _⟩, fun b hb => ?_, q⟩
    have lb : s1.heap.objs.size ≤ b := by
      rcases (show b = s1.heap.objs.size + 1 ∨ b = s1.heap.objs.size by simpa using hb) with z | z
      · exact z ▸ Nat.le_succ _
      · exact z ▸ Nat.le_refl _
    exact I1.fpOk lb (I1.hok.fresh lb)
def uEnum (K : PySem.W.Frag) (ta : TA) : TI := fun σ H R => iEnum K ta σ H R ∨ iEnumT K ta σ H R
theorem ui_enum {e : Expr} {ta : TA} {p pos tpos : Pos} {elts : List Expr} {kk : Nat} (hg : Gl X "enumerate") (hm : X.mg "enumerate" = none) (ha : PA X [e] ta) (hs : starEach [e] X.env = [(false, eval e X.env)] := by rfl) : PI X (.Tuple elts kk tpos) (.Call (.Name "enumerate" p) [e] [] pos) (uEnum X.K ta) :=
  pi_or (pi_enum hg hm ha hs) (pi_enumT hg hm ha hs)
/-- as ut, the facts K told (within a comprehension) -/
theorem utK (K : PySem.W.Frag) {e : Expr} {te : TE} (h : PE X e te) (hK : X.K = K := by rfl) (he : ∀ whole, isTrue e X.env whole = (do let v ← whole; standAt e.pos; holding [v] (truthy v)) := by intro _; rfl) : PT X e (uT K te) := by
  subst hK
  exact ut h he
/-- in: a sign in a text, a flat thing in a list or a tuple -/
def uIn (K : PySem.W.Frag) (neg : Bool) : R2 := fun x y H Q => match x, y with
  | .str c, .str z => c.cps.size = 1 ∧ Q (.bl (if neg then !decide (c.cps.toList.headD 0 ∈ z.cps.toList) else decide (c.cps.toList.headD 0 ∈ z.cps.toList))) H
  | x, .ref p => ∃ xs, (SqL K H p xs ∨ SqT K H p xs) ∧ flatV x = true ∧ xs.all flatV = true ∧ Q (.bl (if neg then !inV x xs else inV x xs)) H
  | _, _ => False
theorem one_sign {c : Str} (h : c.cps.size = 1) : c = ⟨#[c.cps.toList.headD 0]⟩ := by
  obtain ⟨⟨l⟩⟩ := c
  match l, h with
  | [a], _ => rfl
theorem uo_in : OpR X (compareOp .In) (uIn X.K false) := by
  intro pins s σ H x y v u Q I rx ry h
  unfold uIn at h
  split at h
  · rename_i c z
    exact op_in_sign pins s σ H _ _ v u Q I rx ry ⟨_, z, congrArg V.str (one_sign h.1), rfl, h.2⟩
  · obtain ⟨xs, a, b, c, d⟩ := h
    exact op_in_seq pins s σ H _ _ v u Q I rx ry ⟨_, xs, rfl, a, b, c, d⟩
  · exact h.elim
end
theorem walk_enumT {K : PySem.W.Frag} {a : Addr} {xs : List V} : Walk (ItE K a) xs.length (fun H => SqT K H a xs) (YPair (fun i => some (.int (i : Nat))) (fun i => xs[i]?)) := by
  refine ⟨fun i _ hi q => ⟨xs, xs[i], q, by simp [hi]⟩, fun _ q => ⟨xs, q, Nat.le_refl _⟩, fun i H v H' _ q y => ?_⟩
  obtain ⟨T, x, h1, h2, h3, h4⟩ := y
  exact ⟨T, _, x, h1, h2, h3, rfl, h4 xs q⟩

section
variable {X : Cx}
theorem uo_notIn : OpR X (compareOp .NotIn) (uIn X.K true) := by
  intro pins s σ H x y v u Q I rx ry h
  unfold uIn at h
  split at h
  · rename_i c z
    exact op_notIn_sign pins s σ H _ _ v u Q I rx ry ⟨_, z, congrArg V.str (one_sign h.1), rfl, h.2⟩
  · obtain ⟨xs, a, b, c, d⟩ := h
    exact op_notIn_seq pins s σ H _ _ v u Q I rx ry ⟨_, xs, rfl, a, b, c, d⟩
  · exact h.elim
/-- a slice of a text, a list, a tuple -/
def uSl (K : PySem.W.Frag) : V → Option Int → Option Int → Hp → VK → Prop := fun x lo hi H Q => match x with
  | .str z => z.length ≤ sizeLine ∧ Q (.str (cutS z lo hi)) H
  | .ref a => rSlL K (.ref a) lo hi H Q ∨ rSlA K (.ref a) lo hi H Q
  | _ => False
theorem us_sl : SlR X (uSl X.K) := by
  intro pins s σ H x v vl vu lo hi sl Q I rx hs pl pu h
  unfold uSl at h
  split at h
  · exact sl_str pins s σ H _ v vl vu lo hi sl Q I rx hs pl pu ⟨_, rfl, h⟩
  · exact (sl_list.or sl_tupA) pins s σ H _ v vl vu lo hi sl Q I rx hs pl pu h
  · exact h.elim
/-- tuple(xs), xs a list -/
def uTup (K : PySem.W.Frag) : List V → Hp → VK → Prop := fun xs H Q => match xs with
  | [.ref p] => ∃ ys, (SqL K H p ys ∧ ∀ l, H l = none → Q (.ref l) (upd H l (.tup ys))) ∨ (SqT K H p ys ∧ Q (.ref p) H)
  | _ => False
theorem uk_tup : CallR X (.type "tuple") (uTup X.K) := by
  intro pins s σ H xs us Q I r h
  unfold uTup at h
  split at h
  · obtain ⟨ys, h⟩ := h
    exact call_tuple_of pins s σ H _ us Q I r ⟨_, ys, rfl, h⟩
  · exact h.elim
end
section
variable {K : PySem.W.Frag} {H : Hp} {Q : VK} {σ : L2.St} {neg : Bool}
theorem g_lcU {wi : TI} {g : TG} {tt : TT} {te : TE} {vs : List Nat} (h : wi σ H fun J H1 => ∀ D, H1 D = none → ∃ W : Nat → Nat → Hp → Prop, (∃ m, W 0 m (upd H1 D (.lst []))) ∧ ∀ i m H, W i m H →
    (J.stop i H ∧ Q (.ref D) H) ∨ (J.go i H ∧ ∃ Nx : Hp → Prop, (∀ H', Nx H' → ∃ m', m' < m ∧ W (i + 1) m' H') ∧ ∀ x H', J.yld i H x H' → g x (wipe σ vs) H' fun σ2 H2 => wipe σ2 vs = wipe σ vs ∧ tt σ2 H2 fun b H3 =>
      if b = true then te σ2 H3 fun y H4 => ∃ acc, H4 D = some (.lst acc) ∧ acc.length < sizeLine ∧ Nx (upd H4 D (.lst (acc ++ [y]))) else Nx H3)) : tLc wi g tt te vs σ H Q := h
theorem g_yes {q : Bool → Hp → Prop} (h : q true H) : tYes σ H q := h
theorem g_inS {c z : Str} (e : c.cps.size = 1) (h : Q (.bl (decide (c.cps.toList.headD 0 ∈ z.cps.toList))) H) : uIn K false (.str c) (.str z) H Q := ⟨e, h⟩
theorem g_slS {z : Str} {lo hi : Option Int} (e : z.length ≤ 1000000) (h : Q (.str (cutS z lo hi)) H) : uSl K (.str z) lo hi H Q := ⟨Nat.le_trans e (by decide), h⟩
theorem g_slLU {a : Addr} {xs : List V} {lo hi : Option Int} (ha : H a = some (.lst xs)) (h : ∀ p, H p = none → Q (.ref p) (upd H p (.lst (cutV xs lo hi)))) : uSl K (.ref a) lo hi H Q := .inl ⟨a, xs, rfl, sqL ha, h⟩
theorem g_ixS {z : Str} {i : Int} {c : Nat} (e : atI z.cps.toList i = some c) (hz : z.length ≤ 1000000) (h : Q (.str ⟨#[c]⟩) H) : uIx K (.str z) (.int i) H Q := ⟨Nat.le_trans hz (by decide), c, e, h⟩
theorem g_tupOf {p : Addr} {ys : List V} (hp : H p = some (.lst ys)) (h : ∀ l, H l = none → Q (.ref l) (upd H l (.tup ys))) : uTup K [.ref p] H Q := ⟨ys, .inl ⟨sqL hp, h⟩⟩
theorem g_lenStr {z : Str} (e : z.length ≤ 1000000) (h : Q (.int (z.length : Nat)) H) : uLen K [.str z] H Q := ⟨Nat.le_trans e (by decide), h⟩
theorem g_seqLs {td : TE} {R : It → Hp → Prop} (h : td σ H fun x H1 => ∃ a, x = .ref a ∧ (∃ xs, SqL K H1 a xs) ∧ R (Itl K a) H1) : uSeq K td σ H R := .inl h
theorem g_seqTs {td : TE} {R : It → Hp → Prop} (h : td σ H fun x H1 => ∃ a, x = .ref a ∧ (∃ xs, SqT K H1 a xs) ∧ R (Itt K a) H1) : uSeq K td σ H R := .inr (.inl h)
theorem g_enL {ta : TA} {R : It → Hp → Prop} (h : ta σ H fun vs H1 => ∃ a xs, vs = [.ref a] ∧ SqL K H1 a xs ∧ R (Ite K a) H1) : uEnum K ta σ H R := .inl h
theorem g_enT {ta : TA} {R : It → Hp → Prop} (h : ta σ H fun vs H1 => ∃ a xs, vs = [.ref a] ∧ SqT K H1 a xs ∧ R (ItE K a) H1) : uEnum K ta σ H R := .inr h
theorem g_all {a : Addr} {bs : List Bool} (ha : H a = some (.lst (bs.map V.bl))) (h : Q (.bl (bs.all id)) H) : rAll K [.ref a] H Q := ⟨a, bs, rfl, sqL ha, h⟩
theorem g_seqSs {td : TE} {R : It → Hp → Prop} (h : td σ H fun v H1 => ∃ x, v = .str x ∧ R (Its x) H1) : uSeq K td σ H R := .inr (.inr h)
/-! dicts -/
section
variable {td ty tv tx : TE} {D : Ends} {p : Addr} {kvs : List (L2.Key × V)} {s : Str} {v z : V}
theorem g_dg (h : td σ H fun x H1 => ty σ H1 fun y H2 => ∃ a v, x = .ref a ∧ DGet H2 a y (some v) ∧ Q v H2) : tDGet td ty σ H Q := h
theorem g_dgS {P : V → Prop} (hp : H p = some (.dK kvs)) (e : valV kvs (.inr s) = some v) (h : P v) : ∃ a v, V.ref p = .ref a ∧ DGet H a (.str s) (some v) ∧ P v := ⟨p, v, rfl, by rw [← e]; exact DGet.k (k := .inr s) hp, h⟩
theorem g_di (h : ty σ H fun y H1 => td σ H1 fun x H2 => ∃ a o, x = .ref a ∧ DGet H2 a y o ∧ Q (.bl o.isSome) H2) : tDIn ty td σ H Q := h
theorem g_dni (h : ty σ H fun y H1 => td σ H1 fun x H2 => ∃ a o, x = .ref a ∧ DGet H2 a y o ∧ Q (.bl (!o.isSome)) H2) : tDNotIn ty td σ H Q := h
theorem g_diS {P : Option V → Prop} (hp : H p = some (.dK kvs)) (h : P (valV kvs (.inr s))) : ∃ a o, V.ref p = .ref a ∧ DGet H a (.str s) o ∧ P o := ⟨p, _, rfl, DGet.k (k := .inr s) hp, h⟩
theorem g_dp (h : tv σ H fun v H1 => td σ H1 fun x H2 => ty σ H2 fun y H3 => ∃ a H4, x = .ref a ∧ DPut H3 a y v H4 ∧ D.nx σ H4) : sDPut td ty tv D σ H := h
theorem g_dpS {P : Hp → Prop} (hp : H p = some (.dK kvs)) (hl : kvs.length ≤ 1000000) (h : P (upd H p (.dK (putK kvs (.inr s) v)))) : ∃ a H4, V.ref p = .ref a ∧ DPut H a (.str s) v H4 ∧ P H4 := ⟨p, _, rfl, DPut.k (k := .inr s) hp (Nat.lt_of_le_of_lt hl (by decide)), h⟩
theorem g_ds (h : td σ H fun x H1 => ∃ a, x = .ref a ∧ IsD H1 a ∧ ty σ H1 fun y H2 => tx σ H2 fun z H3 => ∃ (kvs : List (L2.Key × V)) (k : L2.Key), H3 a = some (.dK kvs) ∧ y = kV k ∧ kvs.length < sizeLine ∧
  (∀ v, valV kvs k = some v → Q v H3) ∧ (valV kvs k = none → Q z (upd H3 a (.dK (putK kvs k z))))) : tDSetd td ty tx σ H Q := h
theorem isD_of (hp : H p = some (.dK kvs)) : IsD H p := .inl ⟨kvs, .inl hp⟩
end
end
/-! ### names and woods -/
def lettersS : Str := "abcdefghijklmnopqrstuvwxyz"
def isName (s : Str) : Bool := !decide (s = "kind") && decide (1 ≤ s.length ∧ s.length ≤ 6) && s.cps.toList.all fun c => decide (c ∈ lettersS.cps.toList)
/-- kind, its makers: name and parts -/
abbrev Mk := Str × List Str
abbrev Wd := List (Str × List Mk)
def partsD (ps : List Str) : D := .tup (ps.map D.str)
def mkD (m : Mk) : D := .tup [.str m.1, partsD m.2]
def kindD (k : Str × List Mk) : D := .tup [.str k.1, .tup (k.2.map mkD)]
def woodD (w : Wd) : D := .tup (w.map kindD)
def spIsName : Sp := fun vs H Q _ => ∃ s : Str, vs = [.str s] ∧ s.length ≤ 100000 ∧ ∀ H', Ex H H' → Q (.bl (isName s)) H'
theorem Rep.strI {H : Hp} {s : Str} {v : V} (h : Rep H (.str s) v) : v = .str s := by simpa only [Rep] using h
theorem Rep.twoI {H : Hp} {d e : D} {v : V} (h : Rep H (.tup [d, e]) v) : ∃ a x y, v = .ref a ∧ H a = some (.tup [x, y]) ∧ Rep H d x ∧ Rep H e y := by
  simp only [Rep, Reps] at h
  obtain ⟨a, _, rfl, ha, x, _, rfl, rx, y, _, rfl, ry, rfl⟩ := h
  exact ⟨a, x, y, rfl, ha, rx, ry⟩
theorem Rep.tupI {H : Hp} {ds : List D} {v : V} (h : Rep H (.tup ds) v) : ∃ a xs, v = .ref a ∧ H a = some (.tup xs) ∧ Reps H ds xs := by simpa only [Rep] using h
theorem Reps.strs {H : Hp} : ∀ {ps : List Str} {vs : List V}, Reps H (ps.map D.str) vs → vs = ps.map V.str
  | [], vs, h => by simpa only [List.map, Reps] using h
  | p :: ps, vs, h => by
    simp only [List.map, Reps, Rep] at h
    obtain ⟨v, r, rfl, rfl, h⟩ := h
    rw [Reps.strs h]
    rfl
theorem strsReps {H : Hp} : ∀ ps : List Str, Reps H (ps.map D.str) (ps.map V.str)
  | [] => by simp only [List.map, Reps]
  | p :: ps => by
    simp only [List.map, Reps]
    exact ⟨_, _, rfl, Rep.s p, strsReps ps⟩
/-- the i-th kind of a wood -/
theorem wood_at {H : Hp} {w : Wd} {xs : List V} {i : Nat} {x : V} (h : Reps H (w.map kindD) xs) (hx : xs[i]? = some x) : ∃ k a c ys, w[i]? = some k ∧ x = .ref a ∧ H a = some (.tup [.str k.1, .ref c]) ∧ H c = some (.tup ys) ∧ Reps H (k.2.map mkD) ys := by
  obtain ⟨d, hd, r⟩ := h.get hx
  rw [List.getElem?_map] at hd
  cases e : w[i]? with
  | none => rw [e] at hd; cases hd
  | some k =>
    rw [e] at hd
    cases hd
    obtain ⟨a, y, z, rfl, ha, ry, rz⟩ := Rep.twoI r
    cases ry.strI
    obtain ⟨c, ys, rfl, hc, rs⟩ := rz.tupI
    exact ⟨k, a, c, ys, rfl, rfl, ha, hc, rs⟩
/-- the i-th maker of a kind -/
theorem mk_at {H : Hp} {ms : List Mk} {xs : List V} {i : Nat} {x : V} (h : Reps H (ms.map mkD) xs) (hx : xs[i]? = some x) : ∃ m a c, ms[i]? = some m ∧ x = .ref a ∧ H a = some (.tup [.str m.1, .ref c]) ∧ H c = some (.tup (m.2.map V.str)) := by
  obtain ⟨d, hd, r⟩ := h.get hx
  rw [List.getElem?_map] at hd
  cases e : ms[i]? with
  | none => rw [e] at hd; cases hd
  | some m =>
    rw [e] at hd
    cases hd
    obtain ⟨a, y, z, rfl, ha, ry, rz⟩ := Rep.twoI r
    cases ry.strI
    obtain ⟨c, ys, rfl, hc, rs⟩ := rz.tupI
    cases rs.strs
    exact ⟨m, a, c, rfl, rfl, ha, hc⟩
/-! ### comprehensions that map -/
section
variable {J : It} {n : Nat} {G : Hp → Prop} {Y : Nat → Hp → V → Hp → Prop} {g : TG} {te : TE} {vs : List Nat} {σ : L2.St} {H1 : Hp} {D : Addr} {Qd : Hp → Prop}
/-- nothing but new objects; R of each item -/
theorem lc_mapE (w : Walk J n G Y) (R : Nat → Hp → V → Prop) (hn : n ≤ 1000000) (hD : H1 D = none) (hR : ∀ j H H' v, Tk H H' → R j H v → R j H' v) (hG : ∀ H, Ex H1 H → G H)
    (hs : ∀ i x H H' (P : VK) (N : Hp → Prop), i < n → Ex H1 H → Y i H x H' → (∀ y H4, Ex H H4 → R i H4 y → P y H4) → g x (wipe σ vs) H' fun σ2 H2 => wipe σ2 vs = wipe σ vs ∧ tYes σ2 H2 fun b H3 => if b = true then te σ2 H3 P else N H3)
    (hd : ∀ H' acc, Ex H1 H' → H' D = some (.lst acc) → acc.length = n → (∀ j v, acc[j]? = some v → R j H' v) → Qd H') :
    ∃ W : Nat → Nat → Hp → Prop, (∃ m, W 0 m (upd H1 D (.lst []))) ∧ ∀ i m H, W i m H →
      (J.stop i H ∧ Qd H) ∨ (J.go i H ∧ ∃ Nx : Hp → Prop, (∀ H', Nx H' → ∃ m', m' < m ∧ W (i + 1) m' H') ∧ ∀ x H', J.yld i H x H' → g x (wipe σ vs) H' fun σ2 H2 => wipe σ2 vs = wipe σ vs ∧ tYes σ2 H2 fun b H3 =>
        if b = true then te σ2 H3 fun y H4 => ∃ acc, H4 D = some (.lst acc) ∧ acc.length < sizeLine ∧ Nx (upd H4 D (.lst (acc ++ [y]))) else Nx H3) := by
  refine lc_it w (fun i H => Ex H1 H ∧ ∃ acc, H D = some (.lst acc) ∧ acc.length = i ∧ ∀ j v, acc[j]? = some v → R j H v) ⟨Ex.new hD, [], upd_same, rfl, fun j v z => by simp at z⟩ (fun i H _ p => hG H p.1) ?_ fun H p => ?_
  · rintro i x H H' hi ⟨e, acc, ha, hl, hr⟩ y
    refine hs i x H H' _ _ hi e y fun u H4 e4 r4 => ?_
    have a4 := e4 _ _ ha
    refine ⟨acc, a4, Nat.lt_of_le_of_lt (by omega : acc.length ≤ 1000000) (by decide), (e.trans e4).at_new hD, _, upd_same, by rw [List.length_append, hl]; rfl, fun j v hj => ?_⟩
    have b5 : Tk H4 (upd H4 D (.lst (acc ++ [u]))) := ((But.refl D H4).upd).tkl a4
    by_cases c : j < acc.length
    · rw [List.getElem?_append_left c] at hj
      exact hR _ _ _ _ b5 (hR _ _ _ _ e4.tk (hr j v hj))
    · rw [List.getElem?_append_right (by omega)] at hj
      have ej : j = i := by
        have := (List.getElem?_eq_some_iff.1 hj).1
        simp at this
        omega
      subst ej
      rw [hl, Nat.sub_self] at hj
      cases hj
      exact hR _ _ _ _ b5 r4
  · obtain ⟨e, acc, ha, hl, hr⟩ := p
    exact hd H acc e ha hl hr
end
end Bk

set_option Elab.async false
set_option linter.all false
set_option maxRecDepth 100000
set_option maxHeartbeats 4000000
/-! Bk11: a list's +=; equality by data; dicts of pairs; maps with draws. -/
namespace Bk
open PySem PySem.Spec PyProof.Rows L2
section
variable {M : Model} {A : Around} {E : Value → Shared → Prop} {s : Shared}
theorem iaddL {a b : Value} {Q : Value → Shared → Prop} (ha : s.TypeIs a "list") (hb : s.TypeIs b "list") (hc : wpAny M A (call (.builtin "list.__iadd__") [a, b]) Q E s) : wpAny M A (inplaceOp .Add a b) Q E s := by
  have z1 : seqSlot? (.type "list") (dunderI "add") = pure (some (.builtin "list.__iadd__")) := PySem.seqSlot_of F.slot_list_iadd.lookup (by decide +kernel)
  have z2 : isSeqSlot (some (.builtin "list.__iadd__")) = true := by decide +kernel
  have z0 : fillsInplaceSlot (.type "list") "add" (Operator.Add == .Add) = pure false := by
    unfold fillsInplaceSlot
    show (typeLookup (.type "list") (dunderI "add") >>= fun x => pure (x.isSome && !isSeqSlot x)) = pure false
    rw [F.slot_list_iadd.lookup, pure_bind, z2] <;> rfl
  unfold inplaceOp
  refine wpAny_holding (wpAny_bind (wpAny_typeOf ha (wpAny_bind (wpAny_of_eq z0 ?_))))
  refine (show wpAny M A (if false = true then _ else _) Q E s from ?_); rw [if_neg Bool.false_ne_true]
  refine wpAny_bind (wpAny_binaryOp1_none (nm := "add") ha hb noFill_list_add (wpAny_bind (wpAny_of_eq z1 ?_)))
  exact wpAny_bind (wpAny_rule hc)
end
section
variable {X : Cx}
/-- xs += ys, both lists: the left one grows -/
def uIadd : V → V → Hp → VK → Prop := fun x y H Q => match x, y with
  | .int i, .int j => Q (.int (i + j)) H
  | .ref l, .ref b => ∃ xs zs, H l = some (.lst xs) ∧ H b = some (.lst zs) ∧ xs.length + zs.length ≤ sizeLine ∧ Q (.ref l) (upd H l (.lst (xs ++ zs)))
  | _, _ => False
theorem ip_catL : PIp X .Add uIadd := by
  intro pins s σ H x y v u Q I rx ry h
  unfold uIadd at h
  split at h
  · exact ip_add pins s σ H _ _ v u Q I rx ry ⟨_, _, rfl, rfl, h⟩
  · obtain ⟨xs, zs, hH, hB, hz, q⟩ := h
    cases rx
    cases ry
    obtain ⟨z, its, n, r, hl, e⟩ := I.lstM hH
    obtain ⟨z2, its2, n2, r2, hl2, e2⟩ := I.lstM hB
    have s1 : its.toArray.size + its2.toArray.size ≤ sizeLine := by simp only [List.size_toArray]; omega
    have s2 : ¬ (!its.toArray.isEmpty && Builtin.List.listTooLong (its.toArray.size + its2.toArray.size)) = true := by simp only [notLongL s1, Bool.and_false]; decide
    refine iaddL ⟨_, e, rfl⟩ ⟨_, e2, rfl⟩ (call_meets F.slot_list_iadd ⟨_, e, rfl⟩ F.entry_list_iadd (F.args_list_iadd_2 _ _) (AutoSeq1.list___iadd___list_list_0 _ its.toArray n _ its2.toArray n2 s2 (by simp only [List.size_toArray]; omega) (by omega)) ⟨e, e2, ?_⟩)
    exact ⟨.ref _, _, I.lset (its' := its ++ its2) hH e (by simp) (r.append r2) (by simp only [List.length_append]; omega), rfl, q⟩
  · exact h.elim
end
/-! ### kinds and makers by name -/
/-- (name, number) -/
def kvsFrom : Nat → Wd → List (L2.Key × V)
  | _, [] => []
  | n, k :: r => (.inr k.1, .int (n : Nat)) :: kvsFrom (n + 1) r
theorem paired_of {H : Hp} : ∀ (w : Wd) (n : Nat) (acc : List V), acc.length = w.length → (∀ j v, acc[j]? = some v → ∃ p k, v = .ref p ∧ w[j]? = some k ∧ H p = some (.tup [.str k.1, .int ((n + j : Nat) : Int)])) →
    ∃ ps : List Addr, acc = ps.map V.ref ∧ ∀ K : PySem.W.Frag, Paired (fun p (kv : L2.Key × V) => SqT K H p [kV kv.1, kv.2]) ps (kvsFrom n w)
  | [], n, acc, hl, _ => ⟨[], List.eq_nil_of_length_eq_zero hl, fun _ => .nil⟩
  | k :: w, n, [], hl, _ => by cases hl
  | k :: w, n, v :: acc, hl, h => by
    obtain ⟨p, k', rfl, ek, hp⟩ := h 0 v rfl
    cases ek
    obtain ⟨ps, rfl, hps⟩ := paired_of (H := H) w (n + 1) acc (Nat.succ.inj hl) fun j u hu => by
      obtain ⟨q, k2, a1, a2, a3⟩ := h (j + 1) u hu
      refine ⟨q, k2, a1, a2, ?_⟩
      rw [a3, Nat.add_right_comm n 1 j, Nat.add_assoc n j 1]
    exact ⟨p :: ps, rfl, fun K => .cons (sqT hp) (hps K)⟩
def spKinds : Sp := fun vs H Q _ => ∃ (w : Wd) (v : V), vs = [v] ∧ Rep H (woodD w) v ∧ w.length ≤ 1000 ∧ ∀ d H', H d = none → Ex H H' → H' d = some (.dK (mergeK [] (kvsFrom 0 w))) → Q (.ref d) H'
/-- makers' names, in order -/
def mkNames (w : Wd) : List Str := (w.map fun k => k.2.map Prod.fst).flatten
def spMakersOf : Sp := fun vs H Q _ => ∃ (w : Wd) (v : V), vs = [v] ∧ Rep H (woodD w) v ∧ (mkNames w).length ≤ 1000 ∧ (∀ k ∈ w, k.2.length ≤ 1000) ∧ ∀ l H', H l = none → Ex H H' → H' l = some (.lst ((mkNames w).map V.str)) → Q (.ref l) H'
section
variable {K : PySem.W.Frag} {H : Hp} {Q : VK}
theorem g_dictP {f : List V → Hp → VK → Prop} {a : Addr} {ps : List Addr} {kvs : List (L2.Key × V)} (ha : H a = some (.lst (ps.map V.ref))) (hp : Paired (fun p (kv : L2.Key × V) => SqT K H p [kV kv.1, kv.2]) ps kvs) (h : ∀ p, H p = none → Q (.ref p) (upd H p (.dK (mergeK [] kvs)))) :
    ∃ (a' : Addr) (ps : List Addr) (kvs : List (L2.Key × V)), [V.ref a] = [.ref a'] ∧ SqL K H a' (ps.map V.ref) ∧ Paired (fun p (kv : L2.Key × V) => SqT K H p [kV kv.1, kv.2]) ps kvs ∧ ∀ p, H p = none → Q (.ref p) (upd H p (.dK (mergeK [] kvs))) := ⟨a, ps, kvs, rfl, sqL ha, hp, h⟩
theorem g_augL {σ : L2.St} {i : Nat} {te : TE} {ti : V → V → Hp → VK → Prop} {D : Ends} {x : V} (hx : σ[i]? = some (some x)) (h : te σ H fun y H1 => ti x y H1 fun z H2 => D.nx (σ.set i (some z)) H2) : tAug i te ti D σ H := ⟨x, hx, h⟩
theorem g_iadd {l b : Addr} {xs zs : List V} (hl : H l = some (.lst xs)) (hb : H b = some (.lst zs)) (hz : xs.length + zs.length ≤ 1000000) (h : Q (.ref l) (upd H l (.lst (xs ++ zs)))) : uIadd (.ref l) (.ref b) H Q := ⟨xs, zs, hl, hb, Nat.le_trans hz (by decide), h⟩
end
/-! ### the makers' table -/
/-- the number of a kind by its name -/
def kno (w : Wd) (s : Str) : Int := match valV (mergeK [] (kvsFrom 0 w)) (.inr s) with
  | some (.int i) => i
  | _ => 0
theorem kvsFrom_int : ∀ (n : Nat) (w : Wd), ∀ p ∈ kvsFrom n w, ∃ i : Int, p.2 = .int i
  | _, [], p, h => by cases h
  | n, k :: w, p, h => by
    rcases List.mem_cons.1 h with rfl | h
    · exact ⟨_, rfl⟩
    · exact kvsFrom_int (n + 1) w p h
theorem merge_mem : ∀ (more kvs : List (L2.Key × V)) (k : L2.Key), (∀ p ∈ more, ∃ i : Int, p.2 = .int i) → (∀ v, valV kvs k = some v → ∃ i : Int, v = .int i) → ((∃ v, valV kvs k = some v) ∨ k ∈ more.map Prod.fst) → ∃ i : Int, valV (mergeK kvs more) k = some (.int i)
  | [], kvs, k, _, h2, h3 => by
    rcases h3 with ⟨v, hv⟩ | h3
    · obtain ⟨i, rfl⟩ := h2 v hv
      exact ⟨i, hv⟩
    · cases h3
  | p :: more, kvs, k, h1, h2, h3 => by
    show ∃ i : Int, valV (mergeK (putK kvs p.1 p.2) more) k = some (.int i)
    refine merge_mem more _ k (fun q hq => h1 q (List.mem_cons_of_mem _ hq)) (fun v hv => ?_) ?_
    · rw [valV_put] at hv
      split at hv
      · cases hv
        exact h1 p List.mem_cons_self
      · exact h2 v hv
    · by_cases c : k = p.1
      · exact .inl ⟨p.2, by rw [valV_put, if_pos c]⟩
      · rcases h3 with ⟨v, hv⟩ | h3
        · exact .inl ⟨v, by rw [valV_put, if_neg c]; exact hv⟩
        · rcases List.mem_cons.1 h3 with h3 | h3
          · exact absurd h3 c
          · exact .inr h3
theorem kvsFrom_keys : ∀ (n : Nat) (w : Wd), (kvsFrom n w).map Prod.fst = w.map fun k => Sum.inr k.1
  | _, [] => rfl
  | n, k :: w => by
    show _ :: _ = _ :: _
    rw [kvsFrom_keys (n + 1) w]
theorem kno_get {w : Wd} {s : Str} (h : s ∈ w.map Prod.fst) : valV (mergeK [] (kvsFrom 0 w)) (.inr s) = some (.int (kno w s)) := by
  obtain ⟨i, e⟩ := merge_mem (kvsFrom 0 w) [] (.inr s) (kvsFrom_int 0 w) (fun v z => by cases z) (.inr (by
    rw [kvsFrom_keys]
    obtain ⟨k, hk, rfl⟩ := List.mem_map.1 h
    exact List.mem_map.2 ⟨k, hk, rfl⟩))
  unfold kno
  rw [e]
def tabFrom : Nat → Wd → List (Nat × Mk)
  | _, [] => []
  | n, k :: r => k.2.map (fun m => (n, m)) ++ tabFrom (n + 1) r
theorem tab_split : ∀ (w : Wd) (n i : Nat) (k : Str × List Mk), w[i]? = some k → tabFrom n w = tabFrom n (w.take i) ++ k.2.map (fun m => (n + i, m)) ++ tabFrom (n + i + 1) (w.drop (i + 1))
  | [], n, i, k, h => by simp at h
  | a :: w, n, 0, k, h => by
    cases h
    simp [tabFrom]
  | a :: w, n, i + 1, k, h => by
    have z := tab_split w (n + 1) i k h
    have e : n + 1 + i = n + (i + 1) := by omega
    simp only [tabFrom, List.take_succ_cons, List.drop_succ_cons, z, e, List.append_assoc]
theorem tab_take : ∀ (w : Wd) (n i : Nat) (k : Str × List Mk), w[i]? = some k → tabFrom n (w.take (i + 1)) = tabFrom n (w.take i) ++ k.2.map (fun m => (n + i, m))
  | [], n, i, k, h => by simp at h
  | a :: w, n, 0, k, h => by
    cases h
    simp [tabFrom]
  | a :: w, n, i + 1, k, h => by
    have z := tab_take w (n + 1) i k h
    have e : n + 1 + i = n + (i + 1) := by omega
    simp only [tabFrom, List.take_succ_cons, z, e, List.append_assoc]
theorem tab_mem : ∀ (w : Wd) (n i : Nat) (k : Str × List Mk) (m : Mk), w[i]? = some k → m ∈ k.2 → (n + i, m) ∈ tabFrom n w := fun w n i k m h hm => by
  rw [tab_split w n i k h]
  exact List.mem_append_left _ (List.mem_append_right _ (List.mem_map.2 ⟨m, hm, rfl⟩))
structure TabPre (w : Wd) : Prop where
  nd : ((tabFrom 0 w).map fun e => e.2.1).Nodup
  parts : ∀ k ∈ w, ∀ m ∈ k.2, (∀ s ∈ m.2, s ∈ w.map Prod.fst) ∧ m.2.length ≤ 1000
  wide : w.length ≤ 1000
  many : (tabFrom 0 w).length ≤ 1000
def EntryAt (w : Wd) (H : Hp) (kvs : List (L2.Key × V)) (e : Nat × Mk) : Prop := ∃ p t, valV kvs (.inr e.2.1) = some (.ref p) ∧ H p = some (.tup [.int (e.1 : Nat), .ref t]) ∧ H t = some (.tup (e.2.2.map fun s => .int (kno w s)))
def TabOk (w : Wd) (H : Hp) (kvs : List (L2.Key × V)) (L : List (Nat × Mk)) : Prop := kvs.length ≤ L.length ∧ ∀ e ∈ L, EntryAt w H kvs e
theorem TabOk.tk {w : Wd} {H H' : Hp} {kvs : List (L2.Key × V)} {L : List (Nat × Mk)} (t : Tk H H') (h : TabOk w H kvs L) : TabOk w H' kvs L := ⟨h.1, fun e he => by
  obtain ⟨p, q, a, b, c⟩ := h.2 e he
  exact ⟨p, q, a, t _ _ b, t _ _ c⟩⟩
theorem putK_len (kvs : List (L2.Key × V)) (k : L2.Key) (v : V) : (putK kvs k v).length ≤ kvs.length + 1 := by
  unfold putK
  split
  · rw [List.length_map]; omega
  · rw [List.length_append, List.length_singleton]; omega
theorem TabOk.put {w : Wd} {H : Hp} {kvs : List (L2.Key × V)} {L : List (Nat × Mk)} {e : Nat × Mk} {p t : Addr} (h : TabOk w H kvs L) (hn : e.2.1 ∉ L.map fun e => e.2.1) (hp : H p = some (.tup [.int (e.1 : Nat), .ref t])) (ht : H t = some (.tup (e.2.2.map fun s => .int (kno w s)))) : TabOk w H (putK kvs (.inr e.2.1) (.ref p)) (L ++ [e]) := by
  refine ⟨?_, fun f hf => ?_⟩
  · rw [List.length_append, List.length_singleton]
    have := putK_len kvs (.inr e.2.1) (.ref p)
    have := h.1
    omega
  · rcases List.mem_append.1 hf with hf | hf
    · obtain ⟨p', t', a, b, c⟩ := h.2 f hf
      refine ⟨p', t', ?_, b, c⟩
      rw [valV_put, if_neg (fun z => hn ?_)]
      · exact a
      · exact List.mem_map.2 ⟨f, hf, Sum.inr.inj z⟩
    · rw [List.mem_singleton.1 hf]
      exact ⟨p, t, by rw [valV_put, if_pos rfl], hp, ht⟩
def spTable : Sp := fun vs H Q _ => ∃ (w : Wd) (v : V), vs = [v] ∧ Rep H (woodD w) v ∧ TabPre w ∧ ∀ d kvs H', Ex H H' → H' d = some (.dK kvs) → TabOk w H' kvs (tabFrom 0 w) → Q (.ref d) H'
def spKindOf : Sp := fun vs H Q _ => ∃ (w : Wd) (v : V) (e : Nat × Mk), vs = [v, .str e.2.1] ∧ Rep H (woodD w) v ∧ TabPre w ∧ e ∈ tabFrom 0 w ∧ ∀ H', Ex H H' → Q (.int (e.1 : Nat)) H'
def spPartsOf : Sp := fun vs H Q _ => ∃ (w : Wd) (v : V) (e : Nat × Mk), vs = [v, .str e.2.1] ∧ Rep H (woodD w) v ∧ TabPre w ∧ e ∈ tabFrom 0 w ∧ ∀ t H', Ex H H' → H' t = some (.tup (e.2.2.map fun s => .int (kno w s))) → Q (.ref t) H'
theorem g_dnew {σ : L2.St} {H : Hp} {Q : VK} (h : ∀ p, H p = none → Q (.ref p) (upd H p (.dK []))) : tDNewK σ H Q := h
/-! ### a wood that is let by -/
structure WoodOk (w : Wd) : Prop where
  kinds : 1 ≤ w.length ∧ w.length ≤ 4
  name : ∀ k ∈ w, isName k.1 = true
  knd : (w.map Prod.fst).Nodup
  mkr : ∀ k ∈ w, ∀ m ∈ k.2, isName m.1 = true ∧ m.2.length ≤ 2 ∧ ∀ s ∈ m.2, s ∈ w.map Prod.fst
  nd : ((tabFrom 0 w).map fun e => e.2.1).Nodup
  many : (tabFrom 0 w).length ≤ 12
theorem WoodOk.pre {w : Wd} (h : WoodOk w) : TabPre w := ⟨h.nd, fun k hk m hm => ⟨(h.mkr k hk m hm).2.2, Nat.le_trans (h.mkr k hk m hm).2.1 (by decide)⟩, Nat.le_trans h.kinds.2 (by decide), Nat.le_trans h.many (by decide)⟩
theorem isName_len {s : Str} (h : isName s = true) : s.length ≤ 100000 := by
  unfold isName at h
  simp only [Bool.and_eq_true, decide_eq_true_eq] at h
  omega
def spLookMakers : Sp := fun vs H Q _ => ∃ (w : Wd) (v : V) (d : Addr) (kvs : List (L2.Key × V)), vs = [v, .ref d] ∧ Rep H (woodD w) v ∧ H d = some (.dK kvs) ∧ (∀ s ∈ w.map Prod.fst, (valV kvs (.inr s)).isSome = true) ∧ WoodOk w ∧ ∀ H', Ex H H' → Q .non H'
def spLookWood : Sp := fun vs H Q _ => ∃ (w : Wd) (v : V), vs = [v] ∧ Rep H (woodD w) v ∧ WoodOk w ∧ ∀ H', Ex H H' → Q (.bl true) H'
def KeysIn (kvs : List (L2.Key × V)) (L : List Str) : Prop := kvs.length ≤ L.length ∧ (∀ s, (valV kvs (.inr s)).isSome = true ↔ s ∈ L)
theorem KeysIn.put {kvs : List (L2.Key × V)} {L : List Str} {s : Str} {v : V} (h : KeysIn kvs L) : KeysIn (putK kvs (.inr s) v) (L ++ [s]) := by
  refine ⟨?_, fun t => ?_⟩
  · have := putK_len kvs (.inr s) v
    have := h.1
    rw [List.length_append, List.length_singleton]
    omega
  · rw [valV_put, List.mem_append, List.mem_singleton]
    by_cases c : t = s
    · subst c
      rw [if_pos rfl]
      exact ⟨fun _ => .inr rfl, fun _ => rfl⟩
    · rw [if_neg (fun z => c (Sum.inr.inj z)), h.2 t]
      exact ⟨fun z => .inl z, fun z => z.resolve_right c⟩
theorem KeysIn.none {kvs : List (L2.Key × V)} {L : List Str} {s : Str} (h : KeysIn kvs L) (hn : s ∉ L) : valV kvs (.inr s) = none := by
  cases e : valV kvs (.inr s) with
  | none => rfl
  | some v => exact absurd ((h.2 s).1 (by rw [e]; rfl)) hn
theorem nodup_at {α : Type} {l : List α} {i : Nat} {x : α} (h : l.Nodup) (hx : l[i]? = some x) : x ∉ l.take i := by
  intro z
  obtain ⟨h1, h2⟩ := List.getElem?_eq_some_iff.1 hx
  have e : l = l.take i ++ x :: l.drop (i + 1) := by rw [← h2, List.getElem_cons_drop, List.take_append_drop]
  rw [e] at h
  exact (List.nodup_append.1 h).2.2 _ z _ List.mem_cons_self rfl
theorem g_lenD {K : PySem.W.Frag} {H : Hp} {Q : VK} {p : Addr} {kvs : List (L2.Key × V)} (hp : H p = some (.dK kvs)) (h : Q (.int (kvs.length : Nat)) H) : uLen K [.ref p] H Q := ⟨kvs.length, .inr ⟨kvs, hp, rfl⟩, h⟩
/-! ### maps with draws -/
theorem Box.tk {H H' : Hp} {p : Addr} (b : Box H p) (e : But p H H') : Tk H H' := by
  obtain ⟨_, _, _, h⟩ := b
  exact e.tkl h
theorem Box.ne {H : Hp} {p q : Addr} (b : Box H p) (h : H q = none) : q ≠ p := fun z => by
  obtain ⟨_, _, _, hp⟩ := b
  rw [← z, h] at hp
  cases hp
theorem Box.at_upd {H : Hp} {p q : Addr} {o : HO} (b : Box H p) (h : q ≠ p) : Box (upd H q o) p := by
  obtain ⟨x, y, z, hp⟩ := b
  exact ⟨x, y, z, by rw [upd_ne (Ne.symm h)]; exact hp⟩
theorem But.at_new {p q : Addr} {H H' : Hp} {o : HO} (e : But p H H') (h : H q = none) : But p H (L2.upd H' q o) := fun a u na hu => by
  rw [upd_ne (ne_of_none hu h)]
  exact e a u na hu
section
variable {J : It} {n : Nat} {G : Hp → Prop} {Y : Nat → Hp → V → Hp → Prop} {g : TG} {te : TE} {vs : List Nat} {σ : L2.St} {H1 : Hp} {D : Addr} {Qd : Hp → Prop}
theorem lc_mapB (w : Walk J n G Y) (p : Addr) (R : Nat → Hp → V → Prop) (hn : n ≤ 1000000) (hD : H1 D = none) (hB : Box H1 p) (hR : ∀ j H H' v, Tk H H' → R j H v → R j H' v) (hG : ∀ H, But p H1 H → G H)
    (hs : ∀ i x H H' (P : VK) (N : Hp → Prop), i < n → But p H1 H → Box H p → Y i H x H' → (∀ y H4, But p H H4 → Box H4 p → R i H4 y → P y H4) → g x (wipe σ vs) H' fun σ2 H2 => wipe σ2 vs = wipe σ vs ∧ tYes σ2 H2 fun b H3 => if b = true then te σ2 H3 P else N H3)
    (hd : ∀ H' acc, But p H1 H' → Box H' p → H' D = some (.lst acc) → acc.length = n → (∀ j v, acc[j]? = some v → R j H' v) → Qd H') :
    ∃ W : Nat → Nat → Hp → Prop, (∃ m, W 0 m (upd H1 D (.lst []))) ∧ ∀ i m H, W i m H →
      (J.stop i H ∧ Qd H) ∨ (J.go i H ∧ ∃ Nx : Hp → Prop, (∀ H', Nx H' → ∃ m', m' < m ∧ W (i + 1) m' H') ∧ ∀ x H', J.yld i H x H' → g x (wipe σ vs) H' fun σ2 H2 => wipe σ2 vs = wipe σ vs ∧ tYes σ2 H2 fun b H3 =>
        if b = true then te σ2 H3 fun y H4 => ∃ acc, H4 D = some (.lst acc) ∧ acc.length < sizeLine ∧ Nx (upd H4 D (.lst (acc ++ [y]))) else Nx H3) := by
  have nD := hB.ne hD
  refine lc_it w (fun i H => But p H1 H ∧ Box H p ∧ ∃ acc, H D = some (.lst acc) ∧ acc.length = i ∧ ∀ j v, acc[j]? = some v → R j H v) ⟨(Ex.new hD).but p, hB.at_upd nD, [], upd_same, rfl, fun j v z => by simp at z⟩ (fun i H _ h => hG H h.1) ?_ fun H h => ?_
  · rintro i x H H' hi ⟨e, b, acc, ha, hl, hr⟩ y
    refine hs i x H H' _ _ hi e b y fun u H4 e4 b4 r4 => ?_
    have a4 := e4 _ _ nD ha
    have t4 := b.tk e4
    refine ⟨acc, a4, Nat.lt_of_le_of_lt (by omega : acc.length ≤ 1000000) (by decide), (e.trans e4).at_new hD, b4.at_upd nD, _, upd_same, by rw [List.length_append, hl]; rfl, fun j v hj => ?_⟩
    have b5 : Tk H4 (upd H4 D (.lst (acc ++ [u]))) := ((But.refl D H4).upd).tkl a4
    by_cases c : j < acc.length
    · rw [List.getElem?_append_left c] at hj
      exact hR _ _ _ _ b5 (hR _ _ _ _ t4 (hr j v hj))
    · rw [List.getElem?_append_right (by omega)] at hj
      have ej : j = i := by
        have := (List.getElem?_eq_some_iff.1 hj).1
        simp at this
        omega
      subst ej
      rw [hl, Nat.sub_self] at hj
      cases hj
      exact hR _ _ _ _ b5 r4
  · obtain ⟨e, b, acc, ha, hl, hr⟩ := h
    exact hd H acc e b ha hl hr
end
/-- a list of values told one by one -/
theorem acc_strs {n : Nat} {acc : List V} {P : Nat → Str → Prop} (hl : acc.length = n) (h : ∀ j v, acc[j]? = some v → ∃ s, v = .str s ∧ P j s) : ∃ ss : List Str, acc = ss.map V.str ∧ ss.length = n ∧ ∀ j s, ss[j]? = some s → P j s := by
  refine ⟨acc.map fun v => match v with | .str s => s | _ => ⟨#[]⟩, ?_, by rw [List.length_map, hl], fun j s hs => ?_⟩
  · refine List.ext_getElem? fun j => ?_
    rw [List.map_map, List.getElem?_map]
    cases e : acc[j]? with
    | none => rfl
    | some v =>
      obtain ⟨s, rfl, _⟩ := h j v e
      rfl
  · rw [List.getElem?_map] at hs
    cases e : acc[j]? with
    | none => rw [e] at hs; cases hs
    | some v =>
      obtain ⟨s', rfl, hp⟩ := h j v e
      rw [e] at hs
      cases hs
      exact hp
/-! ### the comparison where no list stands -/
inductive PrH (H0 H1 : Hp) : Nat → List V → Prop where
  | nil : PrH H0 H1 0 []
  | snoc {n : Nat} {ts : List V} {d : D} {t : V} (h : PrH H0 H1 n ts) (r : Pr H0 H1 d t) (k : d.hard = true) : PrH H0 H1 (n + d.size) (ts ++ [t])
theorem PrH.len {H0 H1 : Hp} {n : Nat} {ts : List V} (h : PrH H0 H1 n ts) : ts.length ≤ n := by
  induction h with
  | nil => exact Nat.le_refl _
  | @snoc n ts d t h r k ih =>
    have := d.size_pos
    rw [List.length_append, List.length_singleton]
    omega
theorem PrH.tk {H0 H1 H2 : Hp} {n : Nat} {ts : List V} (e : Tk H1 H2) (h : PrH H0 H1 n ts) : PrH H0 H2 n ts := by
  induction h with
  | nil => exact .nil
  | snoc h r k ih =>
    obtain ⟨a, v, w, rfl, ha, rv, rw'⟩ := r
    exact .snoc ih ⟨a, v, w, rfl, e _ _ ha, rv, rw'⟩ k
theorem PrH.ext {H0 H1 : Hp} : ∀ {ds : List D} {xs ys : List V} {tl : List Addr} {n : Nat} {ts : List V}, Reps H0 ds xs → Reps H0 ds ys → D.hards ds = true → Prz H1 tl xs ys → PrH H0 H1 n ts → PrH H0 H1 (n + D.sizes ds) (ts ++ tl.map V.ref)
  | [], xs, ys, tl, n, ts, hx, hy, _, hp, h => by
    simp only [Reps] at hx hy
    subst hx
    have e : tl = [] := List.eq_nil_of_length_eq_zero hp.1
    subst e
    simpa [D.sizes] using h
  | d :: ds, xs, ys, tl, n, ts, hx, hy, hh, hp, h => by
    simp only [Reps] at hx hy
    simp only [D.hards, Bool.and_eq_true] at hh
    obtain ⟨x, xr, rfl, rx, hx⟩ := hx
    obtain ⟨y, yr, rfl, ry, hy⟩ := hy
    cases tl with
    | nil => cases hp.1
    | cons t tl =>
      obtain ⟨x', y', ex, ey, ht⟩ := hp.2 0 t rfl
      cases ex
      cases ey
      have hp' : Prz H1 tl xr yr := ⟨Nat.succ.inj hp.1, fun j u hu => by
        obtain ⟨a, b, q⟩ := hp.2 (j + 1) u hu
        exact ⟨a, b, q⟩⟩
      have z := PrH.ext hx hy hh.2 hp' (h.snoc ⟨t, x, y, rfl, ht, rx, ry⟩ hh.1)
      have e1 : n + D.sizes (d :: ds) = n + d.size + D.sizes ds := by simp only [D.sizes]; omega
      have e2 : ts ++ (t :: tl).map V.ref = ts ++ [V.ref t] ++ tl.map V.ref := by simp
      rw [e1, e2]
      exact z
theorem D.openT {H0 : Hp} {d : D} {v w : V} (k : d.isT = true) (kh : d.hard = true) (r : Rep H0 d v) (r' : Rep H0 d w) : ∃ (a b : Addr) (ds : List D) (xs ys : List V), v = .ref a ∧ w = .ref b ∧ Reps H0 ds xs ∧ Reps H0 ds ys ∧ d.size = 1 + D.sizes ds ∧ D.hards ds = true ∧ H0 a = some (.tup xs) ∧ H0 b = some (.tup ys) := by
  cases d with
  | tup ds =>
    simp only [Rep] at r r'
    obtain ⟨a, xs, rfl, ha, ra⟩ := r
    obtain ⟨b, ys, rfl, hb, rb⟩ := r'
    exact ⟨a, b, ds, xs, ys, rfl, rfl, ra, rb, by simp only [D.size], by simpa only [D.hard] using kh, ha, hb⟩
  | _ => cases k
theorem hard_flat {d : D} (kh : d.hard = true) (k : d.isT = false) : (d.isT || d.isL) = false := by
  cases d with
  | tup ds => cases k
  | lst ds => simp only [D.hard] at kh; cases kh
  | _ => rfl
def spAlikeT : Sp := fun vs H Q _ => ∃ (d : D) (v w : V), vs = [v, w] ∧ Rep H d v ∧ Rep H d w ∧ d.hard = true ∧ d.size ≤ 400000 ∧ ∀ H', Ex H H' → Q (.bl true) H'
end Bk

set_option Elab.async false
set_option linter.all false
set_option maxRecDepth 100000
set_option maxHeartbeats 4000000
/-! Bk12: texts joined, cut; lists of texts compared. -/
namespace Bk
open PySem PySem.Spec PyProof.Rows L2
theorem fold_join : ∀ (rest : List Str) (acc : Array Nat), (rest.foldl (fun acc p => acc ++ (Str.ofString "").cps ++ p.cps) acc).toList = acc.toList ++ (rest.map fun s => s.cps.toList).flatten
  | [], acc => by simp
  | r :: rest, acc => by
    rw [List.foldl_cons, fold_join rest, List.map_cons, List.flatten_cons]
    have e : (Str.ofString "").cps.toList = [] := by decide
    rw [Array.toList_append, Array.toList_append, e, List.append_nil, List.append_assoc]
theorem joinE (ys : List Str) : (Txt.join "" ys).cps.toList = (ys.map fun s => s.cps.toList).flatten := by
  cases ys with
  | nil => rfl
  | cons y ys =>
    show ((ys.foldl (fun acc p => acc ++ (Str.ofString "").cps ++ p.cps) y.cps).toList) = _
    rw [fold_join, List.map_cons, List.flatten_cons]
def one (c : Nat) : Str := ⟨#[c]⟩
theorem joinOnes (cs : List Nat) : (Txt.join "" (cs.map one)).cps.toList = cs := by
  rw [joinE, List.map_map]
  induction cs with
  | nil => rfl
  | cons c cs ih =>
    rw [List.map_cons, List.flatten_cons, ih]
    rfl
theorem onesLen (cs : List Nat) : ((cs.map one).map (·.length)).sum = cs.length := by
  induction cs with
  | nil => rfl
  | cons c cs ih =>
    rw [List.map_cons, List.map_cons, List.sum_cons, ih]
    show 1 + cs.length = cs.length + 1
    omega
theorem str_len (s : Str) : s.length = s.cps.toList.length := by
  show s.cps.size = _
  simp
/-- a list of single signs -/
theorem acc_ones {n : Nat} {acc : List V} {P : Nat → Prop} (hl : acc.length = n) (h : ∀ (j : Nat) (v : V), acc[j]? = some v → ∃ c, v = V.str ⟨#[c]⟩ ∧ P c) : ∃ cs : List Nat, acc = (cs.map one).map V.str ∧ cs.length = n ∧ ∀ c ∈ cs, P c := by
  induction acc generalizing n with
  | nil => exact ⟨[], rfl, hl, fun c z => nomatch z⟩
  | cons v acc ih =>
    obtain ⟨c, ev, hc⟩ := h 0 v rfl
    subst ev
    obtain ⟨cs, rfl, h2, h3⟩ := ih (n := acc.length) rfl fun j v hj => h (j + 1) v hj
    refine ⟨c :: cs, rfl, ?_, fun x hx => ?_⟩
    · rw [List.length_cons] at hl ⊢
      omega
    · rcases List.mem_cons.1 hx with rfl | hx
      · exact hc
      · exact h3 x hx
section
variable {K : PySem.W.Frag} {H : Hp} {Q : VK} {σ : L2.St}
theorem g_m1 {r : V → List V → Hp → VK → Prop} {to te : TE} (h : to σ H fun x H1 => (∃ a, x = .str a) ∧ te σ H1 fun y H2 => r x [y] H2 Q) : tM1 r to te σ H Q := h
theorem g_tyS {P : Prop} {a : Str} (h : P) : (∃ b, V.str a = .str b) ∧ P := ⟨⟨a, rfl⟩, h⟩
theorem joinB {cs : List Nat} (hl : cs.length ≤ 1000000) : ((cs.map one).map (·.length)).sum + (cs.map one).length * (Str.ofString "").length ≤ 16777216 := by
  rw [onesLen, show (Str.ofString "").length = 0 from rfl, Nat.mul_zero]
  omega
theorem g_inSn {c z : Str} (e : c.cps.size = 1) (h : Q (.bl (!decide (c.cps.toList.headD 0 ∈ z.cps.toList))) H) : uIn K true (.str c) (.str z) H Q := ⟨e, h⟩
/-! lists of texts compared -/
theorem strsDp : ∀ ss : List Str, DpAll K H (ss.map V.str) (ss.map PyData.str)
  | [] => .nil
  | s :: ss => .cons (.str s) (strsDp ss)
theorem eqv_strs : ∀ ss ts : List Str, PyData.eqvAll (ss.map PyData.str) (ts.map PyData.str) = decide (ss = ts)
  | [], [] => rfl
  | [], t :: ts => rfl
  | s :: ss, [] => rfl
  | s :: ss, t :: ts => by
    show (PyData.eqv (.str s) (.str t) && PyData.eqvAll (ss.map PyData.str) (ts.map PyData.str)) = _
    rw [eqv_strs ss ts]
    show ((s == t) && decide (ss = ts)) = decide (s :: ss = t :: ts)
    by_cases c : s = t
    · subst c
      simp
    · have e : (s == t) = false := by simpa using c
      rw [e, Bool.false_and]
      symm
      rw [decide_eq_false_iff_not]
      intro z
      exact c (List.cons.inj z).1
theorem strs_shaped {ss : List Str} (h : ∀ s ∈ ss, ∀ c ∈ s.cps.toList, c < 0x110000) : SeqAt.shaped (.list (ss.map PyData.str)) = true := by
  have a : PyData.canLayAll0 (ss.map PyData.str) = true := by
    induction ss with
    | nil => rfl
    | cons s ss ih =>
      show (PyData.canLay0 (.str s) && PyData.canLayAll0 (ss.map PyData.str)) = true
      rw [ih fun t ht => h t (List.mem_cons_of_mem _ ht), Bool.and_true]
      show s.cps.all (· < 0x110000) = true
      rw [Array.all_eq_true']
      intro x hx
      exact decide_eq_true (h s List.mem_cons_self x (Array.mem_toList_iff.2 hx))
  have b : PyData.depthAll (ss.map PyData.str) = 0 := by
    clear h a
    induction ss with
    | nil => rfl
    | cons s ss ih =>
      show max (PyData.depth (.str s)) (PyData.depthAll (ss.map PyData.str)) = 0
      rw [ih]
      rfl
  show (PyData.canLayAll0 (ss.map PyData.str) && decide (PyData.depthAll (ss.map PyData.str) + 1 ≤ 64)) = true
  rw [a, b]
  rfl
theorem g_eqSs {a b : Addr} {ss ts : List Str} (ha : H a = some (.lst (ss.map V.str))) (hb : H b = some (.lst (ts.map V.str))) (hs : ∀ s ∈ ss, ∀ c ∈ s.cps.toList, c < 0x110000) (ht : ∀ s ∈ ts, ∀ c ∈ s.cps.toList, c < 0x110000) (h : Q (.bl (decide (ss = ts))) H) : rEqD K (.ref a) (.ref b) H Q :=
  ⟨_, _, .lst (sqL ha) (strsDp ss), .lst (sqL hb) (strsDp ts), strs_shaped hs, strs_shaped ht, by
    show Q (.bl (PyData.eqvAll (ss.map PyData.str) (ts.map PyData.str))) H
    rw [eqv_strs]
    exact h⟩
theorem g_neSs {a b : Addr} {ss ts : List Str} (ha : H a = some (.lst (ss.map V.str))) (hb : H b = some (.lst (ts.map V.str))) (hs : ∀ s ∈ ss, ∀ c ∈ s.cps.toList, c < 0x110000) (ht : ∀ s ∈ ts, ∀ c ∈ s.cps.toList, c < 0x110000) (h : Q (.bl (!decide (ss = ts))) H) : rNeD K (.ref a) (.ref b) H Q :=
  ⟨_, _, .lst (sqL ha) (strsDp ss), .lst (sqL hb) (strsDp ts), strs_shaped hs, strs_shaped ht, by
    show Q (.bl (!PyData.eqvAll (ss.map PyData.str) (ts.map PyData.str))) H
    rw [eqv_strs]
    exact h⟩
end
/-- any text of the laws -/
def TextOk (s : Str) : Prop := s.length ≤ 1000 ∧ ∀ c ∈ s.cps.toList, c < 0x110000
def spIsNameL : Sp := fun vs H Q _ => ∃ s : Str, vs = [.str s] ∧ TextOk s ∧ ∀ H', Ex H H' → Q (.bl (isName s)) H'
def spAnyText : Sp := fun vs H Q _ => ∃ p : Addr, vs = [.ref p] ∧ Box H p ∧ ∀ (s : Str) (H' : Hp), TextOk s → But p H H' → Box H' p → Q (.str s) H'
instance instTextOk (s : Str) : Decidable (TextOk s) := inferInstanceAs (Decidable (s.length ≤ 1000 ∧ ∀ c ∈ s.cps.toList, c < 0x110000))
def anyTexts : List Str := ["kind", "kinds", "kin", "Kind", "kindly", "", "a", "abcdef", "abcdefg", "a1", "a b", "aB", "_a", "a ", " a"]
def anySigns : Str := "abcdefghijklmnopqrstuvwxyzABCXYZ0189 !\"#$&'()*+,-./:;<=>?\x40[\\]^_`{|}~\n"
theorem anyTexts_ok : ∀ s ∈ anyTexts, TextOk s := by decide +kernel
theorem anySigns_ok : ∀ c ∈ anySigns.cps.toList, c < 0x110000 := by decide +kernel
theorem anySigns_len : anySigns.length = 69 := by decide +kernel
theorem atI_ex {α : Type} {l : List α} {j : Int} (h0 : 0 ≤ j) (h1 : j < l.length) : ∃ x, atI l j = some x ∧ l[j.toNat]? = some x := by
  have hj : j.toNat < l.length := by omega
  refine ⟨l[j.toNat], ?_, List.getElem?_eq_getElem hj⟩
  have z := atI_nat (List.getElem?_eq_getElem hj)
  rwa [Int.toNat_of_nonneg h0] at z
theorem atI_strs {ss : List Str} {j : Int} (h0 : 0 ≤ j) (h1 : j < ss.length) : ∃ s, atI (ss.map V.str) j = some (.str s) ∧ s ∈ ss := by
  obtain ⟨v, e, h⟩ := atI_ex (l := ss.map V.str) h0 (by rw [List.length_map]; exact h1)
  rw [List.getElem?_map] at h
  cases q : ss[j.toNat]? with
  | none => rw [q] at h; cases h
  | some s =>
    rw [q] at h
    cases h
    exact ⟨s, e, List.mem_of_getElem? q⟩
end Bk

set_option Elab.async false
set_option linter.all false
set_option maxRecDepth 100000
set_option maxHeartbeats 4000000
/-! Bk13: names drawn. -/
namespace Bk
open PySem PySem.Spec PyProof.Rows L2
section
variable {X : Cx}
def uIdx : V → List V → Hp → VK → Prop := fun x xs H Q => match x, xs with
  | .str z, [.str c] => ∃ k, Txt.index0 z c = some k ∧ Q (.int (k : Nat)) H
  | _, _ => False
theorem mt_idx (hc : X.calm = true) : MtS X "str.index" (fun _ x xs H Q => uIdx x xs H Q) := by
  intro pins s σ H x xs v us Q I rx rv h
  unfold uIdx at h
  split at h
  · rename_i z c
    obtain ⟨k, e, q⟩ := h
    exact mt_indexX hc (takes0 (X := X)) pins s σ H _ _ v us Q I rx rv ⟨z, c, rfl, rfl, fun k' e' => by rw [e] at e'; cases e'; exact q, fun e' => by rw [e] at e'; cases e'⟩
  · exact h.elim
end
theorem letters_list : lettersS.cps.toList = (List.range 26).map (97 + ·) := by decide +kernel
theorem letters_len : lettersS.length = 26 := by decide +kernel
theorem letters_index : ∀ i : Fin 26, Txt.index0 lettersS ⟨#[97 + i.val]⟩ = some i.val := by decide +kernel
theorem letters_at {i : Nat} (h : i < 26) : lettersS.cps.toList[i]? = some (97 + i) := by
  rw [letters_list, List.getElem?_map, List.getElem?_range h]
  rfl
theorem letters_mem {c : Nat} : c ∈ lettersS.cps.toList ↔ ∃ i, i < 26 ∧ c = 97 + i := by
  rw [letters_list, List.mem_map]
  constructor
  · rintro ⟨i, hi, rfl⟩
    exact ⟨i, List.mem_range.1 hi, rfl⟩
  · rintro ⟨i, hi, rfl⟩
    exact ⟨i, List.mem_range.2 hi, rfl⟩
/-- small letters alone -/
def Low (s : Str) : Prop := ∀ c ∈ s.cps.toList, c ∈ lettersS.cps.toList
theorem isName_of {s : Str} (hl : Low s) (h1 : 1 ≤ s.length) (h6 : s.length ≤ 6) (hk : s ≠ "kind") : isName s = true := by
  unfold isName
  rw [decide_eq_false hk, decide_eq_true ⟨h1, h6⟩]
  simp only [Bool.not_false, Bool.true_and, List.all_eq_true, decide_eq_true_eq]
  exact hl
theorem isName_low {s : Str} (h : isName s = true) : Low s := by
  unfold isName at h
  simp only [Bool.and_eq_true, List.all_eq_true, decide_eq_true_eq] at h
  exact h.2
theorem low_ok {s : Str} (h : Low s) : ∀ c ∈ s.cps.toList, c < 0x110000 := fun c hc => by
  obtain ⟨i, hi, rfl⟩ := letters_mem.1 (h c hc)
  omega
theorem app_list (s t : Str) : (s ++ t).cps.toList = s.cps.toList ++ t.cps.toList := by
  show (s.cps ++ t.cps).toList = _
  simp
theorem app_len (s t : Str) : (s ++ t).length = s.length + t.length := by
  rw [str_len, str_len, str_len, app_list, List.length_append]
theorem Low.app {s t : Str} (h : Low s) (g : Low t) : Low (s ++ t) := fun c hc => by
  rw [app_list] at hc
  rcases List.mem_append.1 hc with hc | hc
  · exact h c hc
  · exact g c hc
theorem cut_list (z : Str) (lo hi : Option Int) : (cutS z lo hi).cps.toList = (z.cps.toList.drop (HT.sIx z.length 0 lo)).take (HT.sIx z.length z.length hi - HT.sIx z.length 0 lo) := by
  unfold cutS
  rfl
theorem Low.cut {z : Str} {lo hi : Option Int} (h : Low z) : Low (cutS z lo hi) := fun c hc => by
  rw [cut_list] at hc
  exact h c (List.mem_of_mem_drop (List.mem_of_mem_take hc))
theorem cut_to {z : Str} {a : Nat} (h : a ≤ z.length) : (cutS z none (some (a : Int))).cps.toList = z.cps.toList.take a := by
  rw [cut_list, HT.sIx_none, HT.sIx_nat, Nat.min_eq_left h, List.drop_zero, Nat.sub_zero]
theorem cut_from {z : Str} {a : Nat} (h : a ≤ z.length) : (cutS z (some (a : Int)) none).cps.toList = z.cps.toList.drop a := by
  rw [cut_list, HT.sIx_none, HT.sIx_nat, Nat.min_eq_left h, str_len, ← List.length_drop, List.take_length]
theorem cut_to_len (z : Str) (a : Nat) : (cutS z none (some (a : Int))).length = min a z.length := by
  rw [str_len, cut_list, HT.sIx_none, HT.sIx_nat, List.drop_zero, Nat.sub_zero, List.length_take, ← str_len]
  omega
theorem str_ext {s t : Str} (h : s.cps.toList = t.cps.toList) : s = t := by
  obtain ⟨a⟩ := s
  obtain ⟨b⟩ := t
  congr 1
  exact Array.toList_inj.1 h
/-- the same behind another first letter -/
def rot (r : List Nat) (k : Nat) : Str := ⟨((97 + k % 26) :: r).toArray⟩
theorem rot_list (r : List Nat) (k : Nat) : (rot r k).cps.toList = (97 + k % 26) :: r := rfl
theorem rot_of {s : Str} (hl : Low s) (h1 : 1 ≤ s.length) : ∃ a r, s = rot r a := by
  cases e : s.cps.toList with
  | nil => rw [str_len, e] at h1; cases h1
  | cons c r =>
    obtain ⟨i, hi, rfl⟩ := letters_mem.1 (hl c (by rw [e]; exact List.mem_cons_self))
    exact ⟨i, r, str_ext (by rw [e, rot_list, Nat.mod_eq_of_lt hi])⟩
theorem nodup_sub : ∀ {l m : List Str}, l.Nodup → (∀ x ∈ l, x ∈ m) → l.length ≤ m.length
  | [], m, _, _ => Nat.zero_le _
  | x :: l, m, h, s => by
    have hx := s x List.mem_cons_self
    obtain ⟨h1, h2⟩ := List.nodup_cons.1 h
    have ih := nodup_sub (l := l) (m := m.erase x) h2 fun y hy => (List.mem_erase_of_ne fun (z : y = x) => h1 (z ▸ hy)).2 (s y (List.mem_cons_of_mem _ hy))
    rw [List.length_erase_of_mem hx] at ih
    have := List.length_pos_of_mem hx
    rw [List.length_cons]
    omega
theorem rot_bound {r : List Nat} {a t : Nat} {F : List Str} (ht : t ≤ 25) (h : ∀ u, u ≤ t → rot r (a + u) ∈ F) : t + 1 ≤ F.length := by
  have z := nodup_sub (l := (List.range (t + 1)).map fun u => rot r (a + u)) (m := F) ?_ fun x hx => ?_
  · rwa [List.length_map, List.length_range] at z
  · refine List.Pairwise.map _ (R := fun u v => u < v ∧ v ≤ t) (fun u v huv e => ?_) ?_
    · have := congrArg (fun s : Str => s.cps.toList) e
      simp only [rot_list, List.cons.injEq, and_true] at this
      omega
    · refine List.Pairwise.imp_of_mem (R := (· < ·)) (fun hu hv q => ⟨q, ?_⟩) List.pairwise_lt_range
      have := List.mem_range.1 hv
      omega
  · obtain ⟨u, hu, rfl⟩ := List.mem_map.1 hx
    exact h u (by have := List.mem_range.1 hu; omega)
section
variable {K : PySem.W.Frag} {H : Hp} {Q : VK} {σ : L2.St}
theorem inV_strs (n : Str) : ∀ ss : List Str, inV (.str n) (ss.map V.str) = decide (n ∈ ss)
  | [] => rfl
  | s :: ss => by
    show (eqV (.str s) (.str n) || inV (.str n) (ss.map V.str)) = _
    rw [inV_strs n ss]
    show ((s == n) || decide (n ∈ ss)) = decide (n ∈ s :: ss)
    by_cases c : s = n
    · subst c
      simp
    · have e : (s == n) = false := by simpa using c
      rw [e, Bool.false_or]
      congr 1
      rw [List.mem_cons]
      exact propext ⟨fun z => .inr z, fun z => z.resolve_left fun q => c q.symm⟩
theorem flat_strs : ∀ ss : List Str, (ss.map V.str).all flatV = true
  | [] => rfl
  | s :: ss => by
    rw [List.map_cons, List.all_cons, flat_strs ss]
    rfl
theorem g_inL {l : Addr} {n : Str} {ss : List Str} (hl : H l = some (.lst (ss.map V.str))) (h : Q (.bl (decide (n ∈ ss))) H) : uIn K false (.str n) (.ref l) H Q := ⟨_, .inl (sqL hl), rfl, flat_strs ss, by rw [inV_strs]; exact h⟩
theorem g_addS {a b : Str} (hl : a.length + b.length ≤ 1000000) (h : Q (.str (a ++ b)) H) : uAdd K (.str a) (.str b) H Q := ⟨Nat.le_trans hl (by decide), h⟩
theorem g_bmS {T : String} {r : L2.St → V → List V → Hp → VK → Prop} {to : TE} {t : TA} (h : to σ H fun x H1 => tyV K T x H1 ∧ t σ H1 fun xs H2 => r σ x xs H2 Q) : tBMS K T r to t σ H Q := h
theorem g_tyStr {z : Str} {P : Prop} (h : P) : tyV K "str" (.str z) H ∧ P := ⟨rfl, h⟩
theorem g_idx {z c : Str} {k : Nat} (e : Txt.index0 z c = some k) (h : Q (.int (k : Nat)) H) : uIdx (.str z) [.str c] H Q := ⟨k, e, h⟩
end
def spNames : Sp := fun vs H Q _ => ∃ (p : Addr) (many : Nat), vs = [.ref p, .int (many : Nat)] ∧ Box H p ∧ many ≤ 12 ∧ ∀ (l : Addr) (ss : List Str) (H' : Hp), ss.length = many → (∀ s ∈ ss, isName s = true) → ss.Nodup → H l = none → But p H H' → Box H' p → H' l = some (.lst (ss.map V.str)) → Q (.ref l) H'
end Bk

set_option Elab.async false
set_option linter.all false
set_option maxRecDepth 100000
set_option maxHeartbeats 4000000
/-! Bk14: the laws' makers. -/
namespace Bk
open PySem PySem.Spec PyProof.Rows L2
/-- (maker, its kind's number, its parts' numbers), as the laws find them -/
def dueD (w : Wd) (e : Nat × Mk) : D := .tup [.str e.2.1, .int (e.1 : Nat), .tup (e.2.2.map fun s => D.int (kno w s))]
def DueAt (w : Wd) (H : Hp) (e : Nat × Mk) (v : V) : Prop := ∃ p t, v = .ref p ∧ H p = some (.tup [.str e.2.1, .int (e.1 : Nat), .ref t]) ∧ H t = some (.tup (e.2.2.map fun s => .int (kno w s)))
theorem DueAt.tk {w : Wd} {H H' : Hp} {e : Nat × Mk} {v : V} (t : Tk H H') (h : DueAt w H e v) : DueAt w H' e v := by
  obtain ⟨p, q, a, b, c⟩ := h
  exact ⟨p, q, a, t _ _ b, t _ _ c⟩
/-- a list of such -/
def Dues (w : Wd) (H : Hp) (L : List (Nat × Mk)) (vs : List V) : Prop := vs.length = L.length ∧ ∀ (j : Nat) (v : V), vs[j]? = some v → ∃ e, L[j]? = some e ∧ DueAt w H e v
theorem Dues.tk {w : Wd} {H H' : Hp} {L : List (Nat × Mk)} {vs : List V} (t : Tk H H') (h : Dues w H L vs) : Dues w H' L vs := ⟨h.1, fun j v hj => by
  obtain ⟨e, a, b⟩ := h.2 j v hj
  exact ⟨e, a, b.tk t⟩⟩
theorem Dues.app {w : Wd} {H : Hp} {L M : List (Nat × Mk)} {vs us : List V} (h : Dues w H L vs) (g : Dues w H M us) : Dues w H (L ++ M) (vs ++ us) := by
  refine ⟨by rw [List.length_append, List.length_append, h.1, g.1], fun j v hj => ?_⟩
  by_cases c : j < vs.length
  · rw [List.getElem?_append_left c] at hj
    obtain ⟨e, a, b⟩ := h.2 j v hj
    exact ⟨e, by rw [List.getElem?_append_left (by rw [← h.1]; exact c)]; exact a, b⟩
  · rw [List.getElem?_append_right (by omega)] at hj
    obtain ⟨e, a, b⟩ := g.2 _ v hj
    exact ⟨e, by rw [List.getElem?_append_right (by rw [← h.1]; omega), ← h.1]; exact a, b⟩
def spMakers : Sp := fun vs H Q _ => ∃ (w : Wd) (v : V), vs = [v] ∧ Rep H (woodD w) v ∧ WoodOk w ∧ ∀ l H' us, Ex H H' → H' l = some (.lst us) → Dues w H' (tabFrom 0 w) us → Q (.ref l) H'
/-- the first place of a kind's name -/
theorem kno_at : ∀ (w : Wd) (n i : Nat) (k : Str × List Mk) (kvs : List (L2.Key × V)), (w.map Prod.fst).Nodup → w[i]? = some k → valV (mergeK kvs (kvsFrom n w)) (.inr k.1) = some (.int ((n + i : Nat) : Int))
  | [], n, i, k, kvs, _, h => by simp at h
  | a :: w, n, 0, k, kvs, hn, h => by
    cases h
    show valV (mergeK (putK kvs (.inr a.1) (.int (n : Nat))) (kvsFrom (n + 1) w)) (.inr a.1) = _
    have h1 := (List.nodup_cons.1 hn).1
    have z : ∀ (w : Wd) (n : Nat) (kvs : List (L2.Key × V)) (s : Str), s ∉ w.map Prod.fst → valV (mergeK kvs (kvsFrom n w)) (.inr s) = valV kvs (.inr s) := by
      intro w
      induction w with
      | nil => intro n kvs s _; rfl
      | cons b w ih =>
        intro n kvs s hs
        show valV (mergeK (putK kvs (.inr b.1) (.int (n : Nat))) (kvsFrom (n + 1) w)) (.inr s) = _
        rw [List.map_cons, List.mem_cons, not_or] at hs
        rw [ih (n + 1) _ s hs.2, valV_put, if_neg fun e => hs.1 (Sum.inr.inj e)]
    rw [z w (n + 1) _ a.1 h1, valV_put, if_pos rfl]
    rfl
  | a :: w, n, i + 1, k, kvs, hn, h => by
    show valV (mergeK (putK kvs (.inr a.1) (.int (n : Nat))) (kvsFrom (n + 1) w)) (.inr k.1) = _
    rw [kno_at w (n + 1) i k _ (List.nodup_cons.1 hn).2 h]
    congr 2
    omega
theorem kno_idx {w : Wd} {i : Nat} {k : Str × List Mk} (hn : (w.map Prod.fst).Nodup) (h : w[i]? = some k) : kno w k.1 = (i : Nat) := by
  unfold kno
  rw [kno_at w 0 i k [] hn h]
  simp
/-- list.index of a kind's name -/
theorem g_lidx {K : PySem.W.Frag} {H : Hp} {Q : VK} {w : Wd} {l : Addr} {s : Str} (hn : (w.map Prod.fst).Nodup) (hl : H l = some (.lst ((w.map Prod.fst).map V.str))) (hs : s ∈ w.map Prod.fst) (h : Q (.int (kno w s)) H) : rIndex K (.ref l) [.str s] H Q := by
  obtain ⟨i, hi⟩ := List.mem_iff_getElem?.1 hs
  rw [List.getElem?_map] at hi
  cases ek : w[i]? with
  | none => rw [ek] at hi; cases hi
  | some k =>
    rw [ek] at hi
    cases hi
    rw [kno_idx hn ek] at h
    have ei : (w.map Prod.fst)[i]? = some k.1 := by rw [List.getElem?_map, ek]; rfl
    refine ⟨l, _, _, i, .str k.1, rfl, rfl, sqL hl, rfl, flat_strs _, by rw [List.getElem?_map, ei]; rfl, by show (k.1 == k.1) = true; simp, fun m z hm hz => ?_, h⟩
    rw [List.getElem?_map] at hz
    cases em : (w.map Prod.fst)[m]? with
    | none => rw [em] at hz; cases hz
    | some t =>
      rw [em] at hz
      cases hz
      show (t == k.1) = false
      have ne : t ≠ k.1 := by
        intro e
        subst e
        have := nodup_at hn ei
        exact this (List.mem_iff_getElem?.2 ⟨m, by rw [List.getElem?_take, if_pos hm, em]⟩)
      simpa using ne
theorem tab_names : ∀ (w : Wd) (n : Nat), (tabFrom n w).map (fun e => e.2.1) = mkNames w
  | [], n => rfl
  | k :: w, n => by
    show List.map _ (k.2.map (fun m => (n, m)) ++ tabFrom (n + 1) w) = (List.map _ (k :: w)).flatten
    rw [List.map_append, tab_names w (n + 1), List.map_map, List.map_cons, List.flatten_cons]
    rfl
theorem intsReps {H : Hp} : ∀ is : List Int, Reps H (is.map D.int) (is.map V.int)
  | [] => by simp only [List.map, Reps]
  | i :: is => by
    simp only [List.map, Reps]
    exact ⟨_, _, rfl, Rep.i i, intsReps is⟩
theorem ints_hard : ∀ is : List Int, D.hards (is.map D.int) = true
  | [] => rfl
  | i :: is => by
    show (D.hard (.int i) && D.hards (is.map D.int)) = true
    rw [ints_hard is]
    rfl
theorem ints_size : ∀ is : List Int, D.sizes (is.map D.int) = is.length
  | [] => rfl
  | i :: is => by
    show D.size (.int i) + D.sizes (is.map D.int) = _
    rw [ints_size is, List.length_cons]
    simp only [D.size]
    omega
theorem Rep.ints {H : Hp} {t : Addr} {is : List Int} (h : H t = some (.tup (is.map V.int))) : Rep H (.tup (is.map D.int)) (.ref t) := by
  simp only [Rep]
  exact ⟨t, _, rfl, h, intsReps is⟩
theorem map_kno (w : Wd) (l : List Str) : (l.map fun s => V.int (kno w s)) = (l.map fun s => kno w s).map V.int := by rw [List.map_map]; rfl
section
variable {K : PySem.W.Frag} {H : Hp} {Q : VK} {σ : L2.St}
theorem g_clear {l : Addr} {xs : List V} (hl : H l = some (.lst xs)) (h : Q .non (upd H l (.lst []))) : rClear (.ref l) [] H Q := ⟨l, xs, rfl, rfl, hl, h⟩
theorem g_tup3 {p : Addr} {x y z : V} {i j k : Nat} {P : L2.St → Hp → Prop} (hp : H p = some (.tup [x, y, z])) (h : P (((σ.set i (some x)).set j (some y)).set k (some z)) H) : gTup K 3 (gCons (gName i) (gCons (gName j) (gCons (gName k) gNil))) (.ref p) σ H P :=
  ⟨p, _, rfl, sqT hp, rfl, x, _, rfl, y, _, rfl, z, _, rfl, rfl, h⟩
end
theorem WoodOk.low {w : Wd} (h : WoodOk w) : ∀ s ∈ mkNames w, isName s = true := fun s hs => by
  unfold mkNames at hs
  obtain ⟨l, hl, hs⟩ := List.mem_flatten.1 hs
  obtain ⟨k, hk, rfl⟩ := List.mem_map.1 hl
  obtain ⟨m, hm, rfl⟩ := List.mem_map.1 hs
  exact (h.mkr k hk m hm).1
theorem WoodOk.names {w : Wd} (h : WoodOk w) : (mkNames w).length ≤ 12 := by rw [← tab_names w 0, List.length_map]; exact h.many
theorem WoodOk.row {w : Wd} (h : WoodOk w) : ∀ k ∈ w, k.2.length ≤ 1000 := fun k hk => by
  obtain ⟨i, hi⟩ := List.mem_iff_getElem?.1 hk
  have := h.many
  rw [tab_split w 0 i k hi, List.length_append, List.length_append, List.length_map] at this
  omega
def spRightW : Sp := fun vs H Q _ => ∃ (w : Wd) (v : V), vs = [v] ∧ Rep H (woodD w) v ∧ WoodOk w ∧ ∀ H', Ex H H' → Q (.bl true) H'
def spWood : Sp := fun vs H Q _ => ∃ p : Addr, vs = [.ref p, .int 12] ∧ Box H p ∧ ∀ (w : Wd) (v : V) (H' : Hp), WoodOk w → Rep H' (woodD w) v → But p H H' → Box H' p → Q v H'
theorem strs_hard : ∀ ss : List Str, D.hards (ss.map D.str) = true
  | [] => rfl
  | s :: ss => by
    show (D.hard (.str s) && D.hards (ss.map D.str)) = true
    rw [strs_hard ss]
    rfl
theorem mks_hard : ∀ ms : List Mk, D.hards (ms.map mkD) = true
  | [] => rfl
  | m :: ms => by
    show (D.hard (mkD m) && D.hards (ms.map mkD)) = true
    rw [mks_hard ms, Bool.and_true]
    show (D.hard (.str m.1) && (D.hards (m.2.map D.str) && true)) = true
    rw [strs_hard]
    rfl
theorem kinds_hard : ∀ w : Wd, D.hards (w.map kindD) = true
  | [] => rfl
  | k :: w => by
    show (D.hard (kindD k) && D.hards (w.map kindD)) = true
    rw [kinds_hard w, Bool.and_true]
    show (D.hard (.str k.1) && (D.hards (k.2.map mkD) && true)) = true
    rw [mks_hard]
    rfl
theorem wood_hard (w : Wd) : (woodD w).hard = true := by
  show D.hards (w.map kindD) = true
  exact kinds_hard w
/-! ### the rows of a wood that is drawn -/
structure Rows (H : Hp) (ras : List Addr) (R : List (List Mk)) : Prop where
  len : ras.length = R.length
  nd : ras.Nodup
  at_ : ∀ (q : Nat) (a : Addr) (r : List Mk), ras[q]? = some a → R[q]? = some r → ∃ us, H a = some (.lst us) ∧ Reps H (r.map mkD) us
theorem Rows.get {H : Hp} {ras : List Addr} {R : List (List Mk)} (h : Rows H ras R) {q : Nat} (hq : q < R.length) : ∃ a r us, ras[q]? = some a ∧ R[q]? = some r ∧ H a = some (.lst us) ∧ Reps H (r.map mkD) us := by
  have hq2 : q < ras.length := by rw [h.len]; exact hq
  obtain ⟨us, a, b⟩ := h.at_ q _ _ (List.getElem?_eq_getElem hq2) (List.getElem?_eq_getElem hq)
  exact ⟨_, _, us, List.getElem?_eq_getElem hq2, List.getElem?_eq_getElem hq, a, b⟩
/-- what keeps the lists at ras and all tuples -/
theorem Rows.keep {H H' : Hp} {ras : List Addr} {R : List (List Mk)} (h : Rows H ras R) (t : Tk H H') (k : ∀ a ∈ ras, ∀ us, H a = some (.lst us) → H' a = some (.lst us)) : Rows H' ras R := ⟨h.len, h.nd, fun q a r ha hr => by
  obtain ⟨us, hu, rs⟩ := h.at_ q a r ha hr
  exact ⟨us, k a (List.mem_of_getElem? ha) us hu, rs.tk t (mks_hard r)⟩⟩
theorem Rows.put {H : Hp} {ras : List Addr} {R : List (List Mk)} {q : Nat} {a : Addr} {r : List Mk} {us : List V} {m : Mk} {v : V} (h : Rows H ras R) (ha : ras[q]? = some a) (hr : R[q]? = some r) (hu : H a = some (.lst us)) (rs : Reps H (r.map mkD) us) (rv : Rep H (mkD m) v) : Rows (upd H a (.lst (us ++ [v]))) ras (R.set q (r ++ [m])) := by
  have tk : Tk H (upd H a (.lst (us ++ [v]))) := ((But.refl a H).upd).tkl hu
  have hm : (mkD m).hard = true := by
    have := mks_hard [m]
    simpa only [List.map, D.hards, Bool.and_true] using this
  refine ⟨by rw [List.length_set]; exact h.len, h.nd, fun j b s hb hs => ?_⟩
  by_cases c : q = j
  · subst c
    have hl : q < R.length := (List.getElem?_eq_some_iff.1 hr).1
    rw [List.getElem?_set_self hl] at hs
    cases hs
    rw [ha] at hb
    cases hb
    refine ⟨us ++ [v], upd_same, ?_⟩
    rw [List.map_append]
    exact (rs.tk tk (mks_hard r)).append (by simp only [List.map, Reps]; exact ⟨v, [], rfl, rv.tk tk hm, rfl⟩)
  · rw [List.getElem?_set_ne c] at hs
    obtain ⟨ws, hw, rw'⟩ := h.at_ j b s hb hs
    have ne : b ≠ a := fun e => False.elim (by
      rw [e] at hb
      have h1 := (List.getElem?_eq_some_iff.1 ha)
      have h2 := (List.getElem?_eq_some_iff.1 hb)
      have z := List.pairwise_iff_getElem.1 h.nd
      rcases Nat.lt_or_gt_of_ne c with l | l
      · exact absurd (h1.2.trans h2.2.symm) (z q j h1.1 h2.1 l)
      · exact absurd (h2.2.trans h1.2.symm) (z j q h2.1 h1.1 l))
    exact ⟨ws, by rw [upd_ne ne]; exact hw, rw'.tk tk (mks_hard s)⟩
def rowNames (R : List (List Mk)) : List Str := (R.map fun r => r.map Prod.fst).flatten
theorem rowNames_put : ∀ (R : List (List Mk)) (q : Nat) (r : List Mk) (m : Mk), R[q]? = some r → (rowNames (R.set q (r ++ [m]))).Perm (rowNames R ++ [m.1])
  | [], q, r, m, h => by simp at h
  | s :: R, 0, r, m, h => by
    cases h
    show ((s ++ [m]).map Prod.fst ++ rowNames R).Perm (s.map Prod.fst ++ rowNames R ++ [m.1])
    rw [List.map_append, List.append_assoc, List.append_assoc]
    exact List.Perm.append_left _ List.perm_append_comm
  | s :: R, q + 1, r, m, h => by
    show (s.map Prod.fst ++ rowNames (R.set q (r ++ [m]))).Perm (s.map Prod.fst ++ rowNames R ++ [m.1])
    rw [List.append_assoc]
    exact List.Perm.append_left _ (rowNames_put R q r m h)
def MkOk (ks : List Str) (m : Mk) : Prop := isName m.1 = true ∧ m.2.length ≤ 2 ∧ ∀ s ∈ m.2, s ∈ ks
theorem zip_names : ∀ (ks : List Str) (R : List (List Mk)), ks.length = R.length → mkNames (ks.zip R) = rowNames R
  | [], [], _ => rfl
  | [], _ :: _, h => by cases h
  | _ :: _, [], h => by cases h
  | k :: ks, r :: R, h => by
    show r.map Prod.fst ++ mkNames (ks.zip R) = r.map Prod.fst ++ rowNames R
    rw [zip_names ks R (Nat.succ.inj h)]
theorem wood_of {ks ns : List Str} {R : List (List Mk)} (hk : 1 ≤ ks.length ∧ ks.length ≤ 4) (hkn : ∀ k ∈ ks, isName k = true) (hkd : ks.Nodup) (hl : ks.length = R.length) (hR : ∀ r ∈ R, ∀ m ∈ r, MkOk ks m) (hp : (rowNames R).Perm ns) (hnd : ns.Nodup) (hn : ns.length ≤ 12) : WoodOk (ks.zip R) := by
  have e1 : (ks.zip R).map Prod.fst = ks := List.map_fst_zip (by omega)
  have e2 : (tabFrom 0 (ks.zip R)).map (fun e => e.2.1) = rowNames R := (tab_names _ _).trans (zip_names ks R hl)
  refine ⟨by rw [List.length_zip]; omega, fun k hk' => hkn k.1 (e1 ▸ List.mem_map.2 ⟨k, hk', rfl⟩), by rw [e1]; exact hkd, fun k hk' m hm => ?_, by rw [e2]; exact hp.nodup_iff.2 hnd, ?_⟩
  · have := hR k.2 (List.of_mem_zip hk').2 m hm
    rw [e1]
    exact this
  · have := congrArg List.length e2
    rw [List.length_map, hp.length_eq] at this
    omega
theorem zip_reps {H : Hp} : ∀ (ks : List Str) (R : List (List Mk)) (acc : List V), ks.length = R.length → acc.length = ks.length → (∀ (j : Nat) (v : V), acc[j]? = some v → ∃ k r, ks[j]? = some k ∧ R[j]? = some r ∧ Rep H (kindD (k, r)) v) → Reps H ((ks.zip R).map kindD) acc
  | [], [], acc, _, h, _ => by
    have : acc = [] := List.eq_nil_of_length_eq_zero h
    subst this
    simp only [List.zip_nil_left, List.map, Reps]
  | [], _ :: _, _, h, _, _ => by cases h
  | _ :: _, [], _, h, _, _ => by cases h
  | k :: ks, r :: R, [], _, h, _ => by cases h
  | k :: ks, r :: R, v :: acc, h, h2, h3 => by
    obtain ⟨k', r', e1, e2, rv⟩ := h3 0 v rfl
    cases e1
    cases e2
    have z := zip_reps ks R acc (Nat.succ.inj h) (Nat.succ.inj h2) fun j u hj => h3 (j + 1) u hj
    simp only [List.zip_cons_cons, List.map, Reps]
    exact ⟨v, acc, rfl, rv, z⟩
theorem kind_hard (k : Str × List Mk) : (kindD k).hard = true := by
  have := kinds_hard [k]
  simpa only [List.map, D.hards, Bool.and_true] using this
def spWoodM : Sp := fun vs H Q _ => ∃ (p : Addr) (most : Nat), vs = [.ref p, .int (most : Nat)] ∧ Box H p ∧ 1 ≤ most ∧ most ≤ 12 ∧ ∀ (w : Wd) (v : V) (H' : Hp), WoodOk w → Rep H' (woodD w) v → But p H H' → Box H' p → Q v H'
end Bk

set_option Elab.async false
set_option linter.all false
set_option maxRecDepth 100000
set_option maxHeartbeats 4000000
/-! Bk15: own errors with fields over ValueError. -/
namespace Bk
open PySem PySem.Spec PyProof.Rows L2
def bmVE : List Value := [.type "ValueError", .type "Exception", .type "BaseException", .type "object"]
def spExc1 (K : PySem.W.Frag) (bm : List Value) (f : Str) : Sp := fun vs H Q _ => ∃ (a C : Addr) (y : V), vs = [.ref a, y] ∧ OexB K C "ValueError.__new__" bm ∧ OexC K C ∧ PySem.W.findIn K (.ref C) f = some none ∧ H a = some (exo a C none) ∧
  ∀ dx, H dx = none → dx ≠ a → Q .non (upd (upd H dx (exd dx [(f, y)])) a (exo a C (some dx)))
def spExc2 (K : PySem.W.Frag) (bm : List Value) (f g : Str) : Sp := fun vs H Q _ => ∃ (a C : Addr) (y z : V), vs = [.ref a, y, z] ∧ OexB K C "ValueError.__new__" bm ∧ OexC K C ∧ PySem.W.findIn K (.ref C) f = some none ∧ PySem.W.findIn K (.ref C) g = some none ∧ H a = some (exo a C none) ∧
  ∀ dx, H dx = none → dx ≠ a → Q .non (upd (upd (upd H dx (exd dx [(f, y)])) a (exo a C (some dx))) dx (exd dx [(g, z), (f, y)]))
section
variable {K : PySem.W.Frag} {bm : List Value} {C : Addr} {H1 : Hp} {Q : XK} {f g : Str} {y z : V}
theorem end_exc1 (x : OexB K C "ValueError.__new__" bm) (o : OexC K C) (n : PySem.W.findIn K (.ref C) f = some none) (h : ∀ d H', Ex H1 H' → H' d = some (.xd [(f, y)]) → Q (.ref C) (some d) H') :
    [y].length ≤ 1000 ∧ ∀ a, H1 a = none → spExc1 K bm f (.ref a :: ([y] ++ [])) (upd H1 a (exo a C none)) (fun v H2 => v = .non ∧ ∃ (d : Addr) (fs : List (Str × V)), H2 a = some (exo a C (some d)) ∧ H2 d = some (exd d fs) ∧ H1 d = none ∧ Q (.ref C) (some d) (upd (del H2 a) d (.xd fs))) (fun _ _ _ => False) := by
  refine ⟨(show 1 ≤ 1000 by decide), fun a ha => ⟨a, C, y, rfl, x, o, n, upd_same, fun dx hdx ne => ⟨rfl, dx, [(f, y)], upd_same, ?_, ?_, h dx _ (fun b u hu => ?_) upd_same⟩⟩⟩
  · rw [upd_ne ne, upd_same]
  · rwa [upd_ne ne] at hdx
  · have nb : b ≠ a := ne_of_none hu ha
    have nd : b ≠ dx := fun e => by rw [e] at hu; rw [upd_ne ne, hu] at hdx; cases hdx
    rw [upd_ne nd, del_ne nb, upd_ne nb, upd_ne nd, upd_ne nb]
    exact hu
theorem end_exc2 (x : OexB K C "ValueError.__new__" bm) (o : OexC K C) (n : PySem.W.findIn K (.ref C) f = some none) (n2 : PySem.W.findIn K (.ref C) g = some none) (h : ∀ d H', Ex H1 H' → H' d = some (.xd [(g, z), (f, y)]) → Q (.ref C) (some d) H') :
    [y, z].length ≤ 1000 ∧ ∀ a, H1 a = none → spExc2 K bm f g (.ref a :: ([y, z] ++ [])) (upd H1 a (exo a C none)) (fun v H2 => v = .non ∧ ∃ (d : Addr) (fs : List (Str × V)), H2 a = some (exo a C (some d)) ∧ H2 d = some (exd d fs) ∧ H1 d = none ∧ Q (.ref C) (some d) (upd (del H2 a) d (.xd fs))) (fun _ _ _ => False) := by
  refine ⟨(show 2 ≤ 1000 by decide), fun a ha => ⟨a, C, y, z, rfl, x, o, n, n2, upd_same, fun dx hdx ne => ⟨rfl, dx, [(g, z), (f, y)], ?_, upd_same, ?_, h dx _ (fun b u hu => ?_) upd_same⟩⟩⟩
  · rw [upd_ne (Ne.symm ne), upd_same]
  · rwa [upd_ne ne] at hdx
  · have nb : b ≠ a := ne_of_none hu ha
    have nd : b ≠ dx := fun e => by rw [e] at hu; rw [upd_ne ne, hu] at hdx; cases hdx
    rw [upd_ne nd, del_ne nb, upd_ne nd, upd_ne nb, upd_ne nd, upd_ne nb]
    exact hu
end
end Bk

set_option Elab.async false
set_option linter.all false
set_option maxRecDepth 100000
set_option maxHeartbeats 4000000
/-! Bk16: what a wood is refused for. -/
namespace Bk
open PySem PySem.Spec PyProof.Rows L2
/-- the kinds' rows: names good and unlike (ks the ones before) -/
def dueKinds : List Str → Wd → Option (Str × Str)
  | _, [] => none
  | ks, k :: w => if isName k.1 = false then some ("name", k.1) else if k.1 ∈ ks then some ("kind", k.1) else dueKinds (ks ++ [k.1]) w
/-- one kind's makers (seen: the makers' names before) -/
def dueMakers (ks : List Str) : List Str → List Mk → Option (Str × Str)
  | _, [] => none
  | seen, m :: ms => if isName m.1 = false then some ("name", m.1) else if m.1 ∈ seen then some ("maker", m.1) else if 2 < m.2.length then some ("parts", m.1)
    else if ∃ s ∈ m.2, s ∉ ks then some ("part", m.1) else dueMakers ks (seen ++ [m.1]) ms
/-- all makers, kind by kind -/
def dueRows (ks : List Str) : List Str → Wd → Option (Str × Str)
  | seen, [] => if 12 < seen.length then some ("makers", "") else none
  | seen, k :: w => (dueMakers ks seen k.2).or (dueRows ks (seen ++ k.2.map Prod.fst) w)
/-- what the wood is refused for, if for anything -/
def lookDue (w : Wd) : Option (Str × Str) :=
  if ¬ (1 ≤ w.length ∧ w.length ≤ 4) then some ("kinds", "") else (dueKinds [] w).or (dueRows (w.map Prod.fst) [] w)
end Bk

set_option Elab.async false
set_option linter.all false
set_option maxRecDepth 100000
set_option maxHeartbeats 4000000
/-! Bk17: caught errors with fields, isinstance by a tuple of classes; texts and tuples times a number. -/
namespace Bk
open PySem PySem.Spec PyProof.Rows L2
/-- isinstance of a caught error, with fields or none, by a class or a tuple of own classes -/
def DOk (H : Hp) (d : Option Addr) : Prop := d = none ∨ ∃ dd fs, d = some dd ∧ H dd = some (.xd fs)
def uIsX (K : PySem.W.Frag) (a : Addr) (cls : Value) (d : Option Addr) : List V → Hp → VK → Prop := fun xs H Q => ∃ D, cls = .ref D ∧ ExcC K D ∧ DOk H d ∧ ∃ c b, xs = [.ref a, c] ∧ Q (.bl b) H ∧
  ((∃ cv, (∀ u, RelV c u → u = cv) ∧ PySem.W.kitOne K (.ref D) cv = some b) ∨ (∃ (tp : Addr) (Cs : List Addr), c = .ref tp ∧ H tp = some (.tup (Cs.map V.ref)) ∧ PySem.W.kitAny K (.ref D) (Cs.map Value.ref) = some b))
theorem vals_refs : ∀ {Cs : List Addr} {us : List Value}, Vals (Cs.map V.ref) us → us = Cs.map Value.ref
  | [], us, h => by cases h; rfl
  | C :: Cs, us, h => by
    cases h with
    | cons r rr =>
      cases (show _ = Value.ref C from r)
      rw [vals_refs rr]
      rfl
theorem uk_isX {X : Cx} {a : Addr} {oe : Obj} {pn : List (Addr × Obj)} {cls : Value} {d : Option Addr} (hz : Zc cls d oe) (hf : ∃ vs, oe.data = .fields vs) : CallR (X.suite a ((a, oe) :: pn)) (.builtin "isinstance") (uIsX X.K a cls d) := by
  intro pins s σ H xs us Q I r h
  obtain ⟨D, rfl, C, hd, c, b, rfl, q, h⟩ := h
  obtain ⟨u1, u2, rfl, rx, rt⟩ := vals2 r
  cases (show u1 = Value.ref a from rx)
  obtain ⟨hget, _⟩ := I.pin (a, oe) (List.mem_append.mpr (.inl List.mem_cons_self))
  obtain ⟨vs, hv⟩ := hf
  have J : ∃ od, PySem.W.InstAt s.heap a oe D od := by
    rcases hd with rfl | ⟨dd, fs, rfl, ea⟩
    · refine ⟨none, ?_⟩
      obtain ⟨oc, od, oda, osl⟩ := oe
      obtain ⟨h1, h2⟩ := hz
      dsimp only at h1 h2 hv
      subst h1 h2 hv
      exact ⟨hget, rfl, rfl, trivial⟩
    · have hx : ObjOk X.prog X.w H s.heap dd (.xd fs) := I.hok dd _ ea
      obtain ⟨mA, hns, hr⟩ := hx
      obtain ⟨od, ho, hl⟩ := lookIn_ns hns
      exact ⟨some od, hget, hz.1, by unfold PySem.W.notCls; rw [hv] <;> rfl, by rw [hz.2]; exact ho⟩
  obtain ⟨od, J⟩ := J
  have cl : (PySem.W.clsIn X.K D).isSome = true := by
    obtain ⟨cdD, hcD, _⟩ := PySem.W.any_some C.hd
    rw [hcD]; rfl
  have Z := PySem.W.kitx_exc (x := a) (ox := oe) (od := od) cl C.hg C.hk C.hs C.ha C.hn C.ht C.hm
  rcases h with ⟨cv, hcv, e⟩ | ⟨tp, Cs, rfl, hT, e⟩
  · have ec := hcv _ rt
    subst ec
    exact PySem.W.kia_one Z I.kIn J e (fun z => nomatch z) fun tk => ⟨.bl b, H, I.kept (t' := tk) fun _ _ z => z, rfl, q⟩
  · cases (show u2 = Value.ref tp from rt)
    obtain ⟨_, its, rv, o, h1, h2, n, h3⟩ := (show ObjOk X.prog X.w H s.heap tp (.tup (Cs.map V.ref)) from I.hok tp _ hT)
    have e3 := vals_refs rv
    subst e3
    obtain ⟨oc, od2, dt, sl⟩ := o
    simp only at h2 h3
    subst h2 h3
    exact PySem.W.kia_tup Z I.kIn J h1 e (fun z => nomatch z) fun tk => ⟨.bl b, H, I.kept (t' := tk) fun _ _ z => z, rfl, q⟩
theorem uk_isK {X : Cx} (K : PySem.W.Frag) {a : Addr} {oe : Obj} {pn : List (Addr × Obj)} {cls : Value} {d : Option Addr} (hz : Zc cls d oe) (hf : ∃ vs, oe.data = .fields vs) (hK : X.K = K := by rfl) : CallR (X.suite a ((a, oe) :: pn)) (.builtin "isinstance") (uIsX K a cls d) := by
  subst hK
  exact uk_isX hz hf
theorem kitAny_no {K : PySem.W.Frag} {t : Value} : ∀ {Cs : List Addr}, (∀ C ∈ Cs, PySem.W.kitOne K t (.ref C) = some false) → PySem.W.kitAny K t (Cs.map Value.ref) = some false
  | [], _ => rfl
  | C :: Cs, h => kitAny_cons (h C List.mem_cons_self) (fun _ => kitAny_no fun D hD => h D (List.mem_cons_of_mem _ hD)) (fun z => nomatch z)
section
variable {K : PySem.W.Frag} {H : Hp} {Q : VK} {σ : L2.St} {D a : Addr} {d : Option Addr} {b : Bool}
theorem g_isXT {T : String} (C : ExcC K D) (hd : DOk H d) (h : PySem.W.kitOne K (.ref D) (.type T) = some b) (q : Q (.bl b) H) : uIsX K a (.ref D) d [.ref a, .ty T] H Q := ⟨D, rfl, C, hd, _, b, rfl, q, .inl ⟨_, fun u z => z, h⟩⟩
theorem g_isXC {E : Addr} (C : ExcC K D) (hd : DOk H d) (h : PySem.W.kitOne K (.ref D) (.ref E) = some b) (q : Q (.bl b) H) : uIsX K a (.ref D) d [.ref a, .ref E] H Q := ⟨D, rfl, C, hd, _, b, rfl, q, .inl ⟨_, fun u z => z, h⟩⟩
theorem g_isXN {tp : Addr} {Cs : List Addr} (C : ExcC K D) (hd : DOk H d) (hT : H tp = some (.tup (Cs.map V.ref))) (h : ∀ E ∈ Cs, PySem.W.kitOne K (.ref D) (.ref E) = some false) (q : Q (.bl false) H) : uIsX K a (.ref D) d [.ref a, .ref tp] H Q := ⟨D, rfl, C, hd, _, false, rfl, q, .inr ⟨tp, Cs, rfl, hT, kitAny_no h⟩⟩
theorem g_xf {cls : Value} {C dd : Addr} {fs : List (Str × V)} {f : Str} {v : V} {te : TE} (e : te σ H fun x H1 => x = .ref a ∧ cls = .ref C ∧ ∃ (dd : Addr) (fs : List (Str × V)) (v : V), d = some dd ∧ H1 dd = some (.xd fs) ∧ fs.lookup f = some v ∧ Q v H1) : tXf a cls d C f te σ H Q := e
theorem xfC (C : ExcC K D) : XfC K D := ⟨C.hg, C.hk, C.hs, C.hd⟩
end
def rListOf (K : PySem.W.Frag) : List V → Hp → VK → Prop := fun xs H Q => ∃ p ys, xs = [.ref p] ∧ (SqL K H p ys ∨ SqT K H p ys) ∧ ∀ l, H l = none → Q (.ref l) (upd H l (.lst ys))
theorem uk_list {X : Cx} : CallR X (.type "list") (rListOf X.K) := call_list_of
/-- a text, n times -/
def repS (x : Str) (n : Int) : Str := ⟨(List.replicate n.toNat x.cps.toList).flatten.toArray⟩
theorem foldl_cps (c : Array Nat) : ∀ (m : Nat) (acc : Array Nat), (List.replicate m c).foldl (· ++ ·) acc = acc ++ (List.replicate m c.toList).flatten.toArray
  | 0, acc => by simp
  | m + 1, acc => by
    rw [List.replicate_succ, List.foldl_cons, foldl_cps c m, List.replicate_succ, List.flatten_cons]
    apply Array.ext'
    simp
theorem repS_len (x : Str) (n : Int) : (repS x n).length = n.toNat * x.length := by
  show (List.replicate n.toNat x.cps.toList).flatten.toArray.size = n.toNat * x.cps.size
  simp
def rRepS : R2 := fun x y H Q => ∃ (a : Str) (n : Int), x = .str a ∧ y = .int n ∧ 0 ≤ n ∧ n ≤ 10000 ∧ a.length ≤ 100 ∧ Q (.str (repS a n)) H
section
variable {X : Cx}
theorem op_repS : OpR X (binaryOp .Mult) rRepS := by
  intro pins s σ H x y v u Q I rx ry h
  obtain ⟨a, n, rfl, rfl, h0, h1, ha, q⟩ := h
  obtain ⟨t, rfl⟩ := rx
  obtain ⟨t', rfl⟩ := ry
  have hl : a.length * n.toNat ≤ 100 * 10000 := Nat.mul_le_mul ha (by omega)
  refine PySem.P.mul_str (by rw [decide_eq_false (by omega), decide_eq_false (by omega)]; rfl) (fun h2 _ => ?_) (fun h2 _ => ?_) ?_
  · have e : (10 : Int) ^ 6 ≤ (2 ^ 63 - 1) / n := by
      refine Int.le_ediv_of_mul_le (by omega) ?_
      have : (10 : Int) ^ 6 * n ≤ 10 ^ 6 * 10000 := Int.mul_le_mul_of_nonneg_left h1 (by decide)
      omega
    omega
  · show decide (_ > _) = false
    exact decide_eq_false (Nat.not_lt.mpr (Nat.le_trans hl (by decide)))
  · by_cases c : n < 1
    · rw [if_pos c]
      have en : n = 0 := by omega
      subst en
      refine ⟨by decide, ?_⟩
      exact ⟨.str (repS a 0), H, I.tok _, ⟨_, rfl⟩, q⟩
    · rw [if_neg c]
      by_cases c2 : (n == 1 || a.length == 0) = true
      · rw [if_pos c2]
        have e : repS a n = a := by
          rcases Bool.or_eq_true_iff.mp c2 with z | z
          · have en : n = 1 := by simpa using z
            subst en
            show Str.mk _ = a
            simp
          · have ez0 : a.length = 0 := by simpa using z
            have ez : a.cps.size = 0 := ez0
            obtain ⟨⟨l⟩⟩ := a
            have : l = [] := List.eq_nil_of_length_eq_zero ez
            subst this
            show Str.mk _ = _
            simp
        rw [e] at q
        exact ⟨.str a, H, I, ⟨_, rfl⟩, q⟩
      · rw [if_neg c2]
        have e : (⟨(List.replicate n.toNat a.cps).foldl (fun x y => x ++ y) #[]⟩ : Str) = repS a n := by
          unfold repS
          rw [foldl_cps a.cps n.toNat #[]]
          simp
        rw [e]
        refine ⟨?_, ?_⟩
        · rw [repS_len]
          exact Nat.le_trans (by rw [Nat.mul_comm]; exact hl) (by decide)
        · exact ⟨.str (repS a n), H, I.tok _, ⟨_, rfl⟩, q⟩
/-- t * 0, t * 1 -/
def rRepT01 (K : PySem.W.Frag) : R2 := fun x y H Q => ∃ (l : Addr) (k : Int) (v : V), x = .ref l ∧ y = .int k ∧ H l = some (.tup [v]) ∧ (k = 0 ∨ k = 1) ∧ (k = 1 → Q (.ref l) H) ∧ (k = 0 → ∀ p, H p = none → Q (.ref p) (upd H p (.tup [])))
theorem tuple_mul1 (l : Addr) (items : Array Value) (n : Nat) (dd : Option Addr) (sl : Array (Option Value)) (u : Tok) :
    Meets (Builtin.«tuple.__mul__» ⟨[.ref l, .int 1 u], []⟩) (fun _ R s => s.heap.get? l = some { cls := .type "tuple", dict := dd, data := .seq items n, slots := sl } ∧ R (.ok (.ret (Value.ref l))) s) :=
  .of_wp fun prog w A R s h => by
    obtain ⟨hp, g, d, tk, os⟩ := s
    obtain ⟨hl, h⟩ := h
    have f1 := AutoSeq1.idx_int
    wp_walk using wpAny_loadPart' hl
    repeat (first
      | (refine wpAny_ite_false (decide_eq_false (by decide)) ?_; wp_walk using wpAny_loadPart' hl)
      | (refine wpAny_ite_true (by simp) ?_; wp_walk using wpAny_loadPart' hl))
    exact ⟨_, rfl, h⟩
theorem tuple_mul0 (l : Addr) (items : Array Value) (n : Nat) (dd : Option Addr) (sl : Array (Option Value)) (u : Tok) (c1 : (items.isEmpty || (0 : Int) == 1) = false) :
    Meets (Builtin.«tuple.__mul__» ⟨[.ref l, .int 0 u], []⟩) (fun _ R s => s.heap.get? l = some { cls := .type "tuple", dict := dd, data := .seq items n, slots := sl } ∧
      R (.ok (.ret (Value.ref s.heap.objs.size))) { s with heap := s.heap.push { cls := Value.type "tuple", data := Data.seq #[] }, toks := s.toks }) :=
  .of_wp fun prog w A R s h => by
    obtain ⟨hp, g, d, tk, os⟩ := s
    obtain ⟨hl, h⟩ := h
    have f1 := AutoSeq1.idx_int
    wp_walk using wpAny_loadPart' hl
    repeat (first
      | (refine wpAny_ite_false (decide_eq_false (by decide)) ?_; wp_walk using wpAny_loadPart' hl)
      | (refine wpAny_ite_false (decide_eq_false (by rw [c1]; exact Bool.false_ne_true)) ?_; wp_walk using wpAny_loadPart' hl)
      | (refine wpAny_ite_true (by simp) ?_; wp_walk using wpAny_loadPart' hl))
    exact ⟨_, rfl, h⟩
theorem op_repT01 : OpR X (binaryOp .Mult) (rRepT01 X.K) := by
  intro pins s σ H x y v u Q I rx ry h
  obtain ⟨l, k, e0, rfl, rfl, hT, hk, q1, q0⟩ := h
  cases rx
  obtain ⟨t, rfl⟩ := ry
  obtain ⟨its, r, ⟨⟨cls, dd, data, sl⟩, ho, hc, n, hd⟩, hs⟩ := I.tuple (sqT hT)
  simp only at hc hd
  subst hc hd
  have F1 := @wpAny_binaryOp_repeat_ref
  have ne : its.toArray.isEmpty = false := by
    cases r with
    | cons a b => rfl
  rcases hk with rfl | rfl
  · refine wpAny_binaryOp_repeat_ref (T := "tuple") (U := "int") (by decide) ⟨_, ho, rfl⟩ (fun s' => typeIs_int s' 0 t) noFill_tuple_mul F.fills_int_mul F.slot_int_rmul repeat_tuple F.slot_int_index.lookup
      (call_meets F.slot_int_rmul (typeIs_int s 0 t) F.entry_int_rmul (F.args_int_rmul_2 _ _) (int_rmul_tuple 0 t l its.toArray n dd sl)
        ⟨ho, rfl, ⟨_, ho, rfl⟩, call_meets F.slot_tuple_mul ⟨_, ho, rfl⟩ F.entry_tuple_mul (F.args_tuple_mul_2 _ _) (tuple_mul0 l its.toArray n dd sl t (by rw [ne]; rfl)) ⟨ho, ?_⟩⟩)
    refine ⟨.ref s.heap.objs.size, _, I.laid (t' := s.toks) (o := .tup []) (fun b ob q => Heap.get?_push_of_some _ q) (Nat.le_refl _) ?_, rfl, q0 rfl _ (I.hok.fresh (Nat.le_refl _))⟩
    exact ⟨by decide, _, .nil, IsTup.new _ _⟩
  · refine wpAny_binaryOp_repeat_ref (T := "tuple") (U := "int") (by decide) ⟨_, ho, rfl⟩ (fun s' => typeIs_int s' 1 t) noFill_tuple_mul F.fills_int_mul F.slot_int_rmul repeat_tuple F.slot_int_index.lookup
      (call_meets F.slot_int_rmul (typeIs_int s 1 t) F.entry_int_rmul (F.args_int_rmul_2 _ _) (int_rmul_tuple 1 t l its.toArray n dd sl)
        ⟨ho, rfl, ⟨_, ho, rfl⟩, call_meets F.slot_tuple_mul ⟨_, ho, rfl⟩ F.entry_tuple_mul (F.args_tuple_mul_2 _ _) (tuple_mul1 l its.toArray n dd sl t) ⟨ho, ?_⟩⟩)
    exact ⟨.ref l, H, I, rfl, q1 rfl⟩
end
section
variable {K : PySem.W.Frag} {H : Hp} {Q : VK} {σ : L2.St}
theorem g_repS {a : Str} {n : Int} (h0 : 0 ≤ n) (h1 : n ≤ 10000) (ha : a.length ≤ 100) (q : Q (.str (repS a n)) H) : rRepS (.str a) (.int n) H Q := ⟨a, n, rfl, rfl, h0, h1, ha, q⟩
/-- list(t), list of a list -/
theorem g_listT {p : Addr} {ys : List V} (hp : H p = some (.tup ys)) (h : ∀ l, H l = none → Q (.ref l) (upd H l (.lst ys))) : rListOf K [.ref p] H Q := ⟨p, ys, rfl, .inr (sqT hp), h⟩
theorem g_listL {p : Addr} {ys : List V} (hp : H p = some (.lst ys)) (h : ∀ l, H l = none → Q (.ref l) (upd H l (.lst ys))) : rListOf K [.ref p] H Q := ⟨p, ys, rfl, .inl (sqL hp), h⟩
/-- t + u, tuples -/
theorem g_catT {a b : Addr} {xs ys : List V} (ha : H a = some (.tup xs)) (hb : H b = some (.tup ys)) (hl : xs.length + ys.length ≤ 1000000) (h : ∀ p H', Ex H H' → H' p = some (.tup (xs ++ ys)) → Q (.ref p) H') : uAdd K (.ref a) (.ref b) H Q := by
  refine .inr ⟨a, b, xs, ys, rfl, rfl, sqT ha, sqT hb, Nat.le_trans hl (by decide), fun e => ?_, fun e f => ?_, fun e f p hp => h p _ (Ex.new hp) upd_same⟩
  · subst e
    exact h b H (Ex.refl _) hb
  · subst f
    exact h a H (Ex.refl _) (by rw [List.append_nil]; exact ha)
/-- t[lo:hi], a tuple -/
theorem g_slT {a : Addr} {xs : List V} {lo hi : Option Int} (ha : H a = some (.tup xs)) (h : ∀ p H', Ex H H' → H' p = some (.tup (cutV xs lo hi)) → Q (.ref p) H') : uSl K (.ref a) lo hi H Q := by
  refine .inr ⟨a, xs, rfl, sqT ha, fun e => ?_, fun e p hp => h p _ (Ex.new hp) upd_same⟩
  refine h a H (Ex.refl _) ?_
  unfold cutV
  rw [e.1, e.2, List.drop_zero, Nat.sub_zero, List.take_length]
  exact ha
theorem g_ins {l : Addr} {xs : List V} {i : Int} {y : V} (hl : H l = some (.lst xs)) (hz : xs.length ≤ 1000000) (h0 : 0 ≤ i) (h1 : i ≤ 1000000) (q : Q .non (upd H l (.lst (xs.take i.toNat ++ [y] ++ xs.drop i.toNat)))) : (fun x vs H Q => ∃ (l : Addr) (xs : List V) (i : Int) (y : V), x = .ref l ∧ vs = [.int i, y] ∧ H l = some (.lst xs) ∧ xs.length < sizeLine ∧ 0 ≤ i ∧ i < 2 ^ 63 ∧ Q .non (upd H l (.lst (xs.take i.toNat ++ [y] ++ xs.drop i.toNat)))) (V.ref l) [.int i, y] H Q :=
  ⟨l, xs, i, y, rfl, rfl, hl, Nat.lt_of_le_of_lt hz (by decide), h0, by omega, q⟩
theorem g_popAt {l : Addr} {xs : List V} {i : Nat} {y : V} (hl : H l = some (.lst xs)) (hz : xs.length ≤ 1000000) (hy : xs[i]? = some y) (q : Q y (upd H l (.lst (xs.eraseIdx i)))) : rPopAt (.ref l) [.int (i : Nat)] H Q := by
  have hi := (List.getElem?_eq_some_iff.1 hy).1
  refine ⟨l, xs, i, i, y, rfl, rfl, hl, by omega, by omega, ?_, hy, q⟩
  unfold seqIndex?
  simp
  omega
end
end Bk

set_option Elab.async false
set_option linter.all false
set_option maxRecDepth 100000
set_option maxHeartbeats 4000000
/-! Bk18: woods of any kind, let by or refused. -/
namespace Bk
open PySem PySem.Spec PyProof.Rows L2
/-- a wood within bounds, of any names -/
structure WdB (w : Wd) : Prop where
  wide : w.length ≤ 500
  name : ∀ k ∈ w, TextOk k.1
  row : ∀ k ∈ w, k.2.length ≤ 500
  mkr : ∀ k ∈ w, ∀ m ∈ k.2, TextOk m.1 ∧ m.2.length ≤ 500 ∧ ∀ s ∈ m.2, TextOk s
theorem TextOk.le {s : Str} (h : TextOk s) : s.length ≤ 100000 := Nat.le_trans h.1 (by decide)
theorem isName_text {s : Str} (h : isName s = true) : TextOk s := by
  have h2 := low_ok (isName_low h)
  unfold isName at h
  simp only [Bool.and_eq_true, decide_eq_true_eq] at h
  exact ⟨by omega, h2⟩
theorem WoodOk.bnd {w : Wd} (h : WoodOk w) : WdB w := ⟨by have := h.kinds; omega, fun k hk => isName_text (h.name k hk), fun k hk => by
    obtain ⟨i, hi⟩ := List.mem_iff_getElem?.1 hk
    have := h.many
    rw [tab_split w 0 i k hi, List.length_append, List.length_append, List.length_map] at this
    omega, fun k hk m hm => by
    have z := h.mkr k hk m hm
    refine ⟨isName_text z.1, by omega, fun s hs => ?_⟩
    obtain ⟨k', hk', rfl⟩ := List.mem_map.1 (z.2.2 s hs)
    exact isName_text (h.name k' hk')⟩
def KeysX (kvs : List (L2.Key × V)) (L : List Str) : Prop := kvs.length = L.length ∧ (∀ s, (valV kvs (.inr s)).isSome = true ↔ s ∈ L)
theorem putK_new {kvs : List (L2.Key × V)} {k : L2.Key} {v : V} (h : valV kvs k = none) : (putK kvs k v).length = kvs.length + 1 := by
  have hz : kvs.find? (fun kv => decide (kv.1 = k)) = none := by
    unfold valV at h
    exact Option.map_eq_none_iff.1 h
  unfold putK
  rw [if_neg, List.length_append, List.length_singleton]
  intro z
  obtain ⟨kv, hkv, e⟩ := List.any_eq_true.1 z
  exact List.find?_eq_none.1 hz kv hkv e
theorem KeysX.none {kvs : List (L2.Key × V)} {L : List Str} {s : Str} (h : KeysX kvs L) (hn : s ∉ L) : valV kvs (.inr s) = none := by
  cases e : valV kvs (.inr s) with
  | none => rfl
  | some v => exact absurd ((h.2 s).1 (by rw [e]; rfl)) hn
theorem KeysX.put {kvs : List (L2.Key × V)} {L : List Str} {s : Str} {v : V} (h : KeysX kvs L) (hn : s ∉ L) : KeysX (putK kvs (.inr s) v) (L ++ [s]) := by
  have z : KeysIn kvs L := ⟨by rw [h.1]; exact Nat.le_refl _, h.2⟩
  exact ⟨by rw [putK_new (h.none hn), h.1, List.length_append, List.length_singleton], (z.put (v := v)).2⟩
theorem KeysX.isS {kvs : List (L2.Key × V)} {L : List Str} (h : KeysX kvs L) (s : Str) : (valV kvs (.inr s)).isSome = decide (s ∈ L) := by
  rw [Bool.eq_iff_iff, decide_eq_true_iff]
  exact h.2 s
theorem acc_map {α : Type} {acc : List V} {xs : List α} {f : α → V} (hl : acc.length = xs.length) (h : ∀ (j : Nat) (v : V), acc[j]? = some v → ∃ x, xs[j]? = some x ∧ v = f x) : acc = xs.map f := by
  refine List.ext_getElem? fun j => ?_
  rw [List.getElem?_map]
  cases c : acc[j]? with
  | none =>
    have := List.getElem?_eq_none_iff.1 c
    rw [List.getElem?_eq_none_iff.2 (by omega : xs.length ≤ j)]
    rfl
  | some v =>
    obtain ⟨x, hx, rfl⟩ := h j v c
    rw [hx]
    rfl
theorem drop_at {α : Type} {l : List α} {i : Nat} {x : α} (h : l[i]? = some x) : l.drop i = x :: l.drop (i + 1) := by
  obtain ⟨h1, h2⟩ := List.getElem?_eq_some_iff.1 h
  rw [← h2, List.getElem_cons_drop]
theorem take_at {α : Type} {l : List α} {i : Nat} {x : α} (h : l[i]? = some x) : l.take (i + 1) = l.take i ++ [x] := by
  rw [List.take_add_one, h]
  rfl
theorem yes_of {p : Prop} [Decidable p] (h : (!decide p) = false) : p := by
  by_cases c : p
  · exact c
  · rw [decide_eq_false c] at h
    cases h
theorem not_of {p : Prop} [Decidable p] (h : (!decide p) = true) : ¬ p := by
  intro c
  rw [decide_eq_true c] at h
  cases h
/-- refused with (word, name), or let by -/
def Told (C : Addr) (H : Hp) (o : Option (Str × Str)) (q : Hp → Prop) (E : XK) : Prop := (o = none → ∀ H', Ex H H' → q H') ∧ ∀ r, o = some r → ∀ d H', Ex H H' → H' d = some (.xd [("name", .str r.2), ("word", .str r.1)]) → E (.ref C) (some d) H'
def spLookWX (C : Addr) : Sp := fun vs H Q E => ∃ (w : Wd) (v : V), vs = [v] ∧ Rep H (woodD w) v ∧ WdB w ∧ Told C H (lookDue w) (Q (.bl true)) E
def spLookMX (C : Addr) : Sp := fun vs H Q E => ∃ (w : Wd) (v : V) (d : Addr) (kvs : List (L2.Key × V)), vs = [v, .ref d] ∧ Rep H (woodD w) v ∧ H d = some (.dK kvs) ∧ (∀ s, (valV kvs (.inr s)).isSome = decide (s ∈ w.map Prod.fst)) ∧ WdB w ∧ Told C H (dueRows (w.map Prod.fst) [] w) (Q .non) E
/-- what the law finds due -/
def dueD2 : Option (Str × Str) → D
  | none => .non
  | some r => .tup [.str r.1, .str r.2]
def spLookDue : Sp := fun vs H Q _ => ∃ (w : Wd) (v : V), vs = [v] ∧ Rep H (woodD w) v ∧ WdB w ∧ ∀ v' H', Ex H H' → Rep H' (dueD2 (lookDue w)) v' → Q v' H'
def toldSs : Option (Str × Str) → List Str
  | none => ["let by"]
  | some r => ["refused", r.1, r.2]
/-- told, or due: let by or refused so -/
def spTold : Sp := fun vs H Q _ => ∃ (w : Wd) (v : V), vs = [v] ∧ Rep H (woodD w) v ∧ WdB w ∧ ∀ p H', Ex H H' → H' p = some (.tup ((toldSs (lookDue w)).map V.str)) → Q (.ref p) H'
theorem i_nb {A B : Prop} {b : Bool} (h1 : b = false → A) (h2 : b = true → B) : if (!b) = true then A else B := by
  cases b with
  | false => rw [if_pos (by decide)]; exact h1 rfl
  | true => rw [if_neg (by decide)]; exact h2 rfl
theorem g_inLn {K : PySem.W.Frag} {H : Hp} {Q : VK} {l : Addr} {n : Str} {ss : List Str} (hl : H l = some (.lst (ss.map V.str))) (h : Q (.bl (!decide (n ∈ ss))) H) : uIn K true (.str n) (.ref l) H Q := ⟨_, .inl (sqL hl), rfl, flat_strs ss, by rw [inV_strs]; exact h⟩
/-- a wood drawn and spoilt n times -/
structure WdT (n : Nat) (w : Wd) : Prop where
  wide : w.length ≤ 4 + n
  name : ∀ k ∈ w, TextOk k.1
  row : ∀ k ∈ w, k.2.length ≤ 12 + 5 * n
  mkr : ∀ k ∈ w, ∀ m ∈ k.2, TextOk m.1 ∧ m.2.length ≤ 2 + 7 * n ∧ ∀ s ∈ m.2, TextOk s
theorem WdT.bnd {n : Nat} {w : Wd} (h : WdT n w) (hn : n ≤ 20) : WdB w := ⟨by have := h.wide; omega, h.name, fun k hk => by have := h.row k hk; omega, fun k hk m hm => by
  obtain ⟨a, b, c⟩ := h.mkr k hk m hm
  exact ⟨a, by omega, c⟩⟩
theorem WoodOk.t0 {w : Wd} (h : WoodOk w) : WdT 0 w := ⟨by have := h.kinds; omega, h.bnd.name, fun k hk => by
    obtain ⟨i, hi⟩ := List.mem_iff_getElem?.1 hk
    have := h.many
    rw [tab_split w 0 i k hi, List.length_append, List.length_append, List.length_map] at this
    omega, fun k hk m hm => ⟨(h.bnd.mkr k hk m hm).1, (h.mkr k hk m hm).2.1, (h.bnd.mkr k hk m hm).2.2⟩⟩
def spSpoiltW : Sp := fun vs H Q _ => ∃ (p : Addr) (w : Wd) (v : V) (n : Nat), vs = [.ref p, v] ∧ Box H p ∧ Rep H (woodD w) v ∧ WdT n w ∧ n ≤ 15 ∧ ∀ (w' : Wd) (v' : V) (H' : Hp), WdT (n + 1) w' → Rep H' (woodD w') v' → But p H H' → Box H' p → Q v' H'
theorem toldSs_ok {w : Wd} (h : WdB w) : ∀ s ∈ toldSs (lookDue w), ∀ c ∈ s.cps.toList, c < 0x110000 := by
  have z : ∀ r, lookDue w = some r → TextOk r.1 ∧ TextOk r.2 := by
    have k1 : TextOk "kinds" ∧ TextOk "" ∧ TextOk "name" ∧ TextOk "kind" ∧ TextOk "maker" ∧ TextOk "parts" ∧ TextOk "part" ∧ TextOk "makers" := by unfold TextOk; decide +kernel
    obtain ⟨t1, t2, t3, t4, t5, t6, t7, t8⟩ := k1
    have a1 : ∀ (w : Wd) (ks : List Str) (r : Str × Str), (∀ k ∈ w, TextOk k.1) → dueKinds ks w = some r → TextOk r.1 ∧ TextOk r.2 := by
      intro w
      induction w with
      | nil => intro ks r _ h; cases h
      | cons k w ih =>
        intro ks r hn h
        unfold dueKinds at h
        split at h
        · cases h; exact ⟨t3, hn k List.mem_cons_self⟩
        · split at h
          · cases h; exact ⟨t4, hn k List.mem_cons_self⟩
          · exact ih _ r (fun x hx => hn x (List.mem_cons_of_mem _ hx)) h
    have a2 : ∀ (ms : List Mk) (ks seen : List Str) (r : Str × Str), (∀ m ∈ ms, TextOk m.1) → dueMakers ks seen ms = some r → TextOk r.1 ∧ TextOk r.2 := by
      intro ms
      induction ms with
      | nil => intro ks seen r _ h; cases h
      | cons m ms ih =>
        intro ks seen r hn h
        have hm := hn m List.mem_cons_self
        unfold dueMakers at h
        split at h
        · cases h; exact ⟨t3, hm⟩
        · split at h
          · cases h; exact ⟨t5, hm⟩
          · split at h
            · cases h; exact ⟨t6, hm⟩
            · split at h
              · cases h; exact ⟨t7, hm⟩
              · exact ih _ _ r (fun x hx => hn x (List.mem_cons_of_mem _ hx)) h
    have a3 : ∀ (w : Wd) (ks seen : List Str) (r : Str × Str), (∀ k ∈ w, ∀ m ∈ k.2, TextOk m.1) → dueRows ks seen w = some r → TextOk r.1 ∧ TextOk r.2 := by
      intro w
      induction w with
      | nil =>
        intro ks seen r _ h
        unfold dueRows at h
        split at h
        · cases h; exact ⟨t8, t2⟩
        · cases h
      | cons k w ih =>
        intro ks seen r hn h
        unfold dueRows at h
        cases e : dueMakers ks seen k.2 with
        | some o =>
          rw [e] at h
          cases h
          exact a2 _ _ _ _ (hn k List.mem_cons_self) e
        | none =>
          rw [e] at h
          exact ih _ _ r (fun x hx => hn x (List.mem_cons_of_mem _ hx)) h
    intro r hr
    unfold lookDue at hr
    split at hr
    · cases hr; exact ⟨t1, t2⟩
    · cases e : dueKinds [] w with
      | some o =>
        rw [e] at hr
        cases hr
        exact a1 _ _ _ h.name e
      | none =>
        rw [e] at hr
        exact a3 _ _ _ _ (fun k hk m hm => (h.mkr k hk m hm).1) hr
  intro s hs c hc
  cases e : lookDue w with
  | none =>
    rw [e] at hs
    cases List.mem_singleton.1 hs
    have t : TextOk "let by" := by unfold TextOk; decide +kernel
    exact t.2 c hc
  | some r =>
    rw [e] at hs
    obtain ⟨h1, h2⟩ := z r e
    simp only [toldSs, List.mem_cons, List.not_mem_nil, or_false] at hs
    rcases hs with rfl | rfl | rfl
    · have t : TextOk "refused" := by unfold TextOk; decide +kernel
      exact t.2 c hc
    · exact h1.2 c hc
    · exact h2.2 c hc
section
variable {K : PySem.W.Frag} {H : Hp} {Q : VK}
theorem strs_shapedT {ss : List Str} (h : ∀ s ∈ ss, ∀ c ∈ s.cps.toList, c < 0x110000) : SeqAt.shaped (.tuple (ss.map PyData.str)) = true := strs_shaped h
theorem g_eqTs {a b : Addr} {ss ts : List Str} (ha : H a = some (.tup (ss.map V.str))) (hb : H b = some (.tup (ts.map V.str))) (hs : ∀ s ∈ ss, ∀ c ∈ s.cps.toList, c < 0x110000) (ht : ∀ s ∈ ts, ∀ c ∈ s.cps.toList, c < 0x110000) (h : Q (.bl (decide (ss = ts))) H) : rEqD K (.ref a) (.ref b) H Q :=
  ⟨_, _, .tup (sqT ha) (strsDp ss), .tup (sqT hb) (strsDp ts), strs_shapedT hs, strs_shapedT ht, by
    show Q (.bl (PyData.eqvAll (ss.map PyData.str) (ts.map PyData.str))) H
    rw [eqv_strs]
    exact h⟩
theorem g_neTs {a b : Addr} {ss ts : List Str} (ha : H a = some (.tup (ss.map V.str))) (hb : H b = some (.tup (ts.map V.str))) (hs : ∀ s ∈ ss, ∀ c ∈ s.cps.toList, c < 0x110000) (ht : ∀ s ∈ ts, ∀ c ∈ s.cps.toList, c < 0x110000) (h : Q (.bl (!decide (ss = ts))) H) : rNeD K (.ref a) (.ref b) H Q :=
  ⟨_, _, .tup (sqT ha) (strsDp ss), .tup (sqT hb) (strsDp ts), strs_shapedT hs, strs_shapedT ht, by
    show Q (.bl (!PyData.eqvAll (ss.map PyData.str) (ts.map PyData.str))) H
    rw [eqv_strs]
    exact h⟩
end
end Bk

set_option Elab.async false
set_option linter.all false
set_option maxRecDepth 100000
set_option maxHeartbeats 4000000
/-! Bk19: a wood laid out as lists, by the sorts of its objects. -/
namespace Bk
open PySem PySem.Spec PyProof.Rows L2
abbrev Sorts := Addr → Nat
/-- an object of a sort: 1 a kind's row, 2 a list of makers, 3 a maker -/
def Sorted (n : Nat) (c : Sorts) (H : Hp) (k : Nat) (o : HO) : Prop :=
  (k = 1 → ∃ (s : Str) (b : Addr), o = .lst [.str s, .ref b] ∧ TextOk s ∧ c b = 2) ∧
  (k = 2 → ∃ xs : List V, o = .lst xs ∧ xs.length ≤ 12 + 5 * n ∧ ∀ x ∈ xs, ∃ b, x = .ref b ∧ c b = 3) ∧
  (k = 3 → ∃ (s : Str) (t : Addr) (ps : List Str), o = .lst [.str s, .ref t] ∧ TextOk s ∧ H t = some (.tup (ps.map V.str)) ∧ ps.length ≤ 2 + 7 * n ∧ ∀ p ∈ ps, TextOk p)
def TyH (n : Nat) (c : Sorts) (H : Hp) : Prop := ∀ a, c a ≠ 0 → c a ≤ 3 ∧ ∃ o, H a = some o ∧ Sorted n c H (c a) o
def setC (c : Sorts) (a : Addr) (k : Nat) : Sorts := fun b => if b = a then k else c b
theorem setC_same {c : Sorts} {a : Addr} {k : Nat} : setC c a k a = k := if_pos rfl
theorem setC_ne {c : Sorts} {a b : Addr} {k : Nat} (h : b ≠ a) : setC c a k b = c b := if_neg h
theorem Sorted.lst {n : Nat} {c : Sorts} {H : Hp} {k : Nat} {o : HO} (h : Sorted n c H k o) (h0 : k ≠ 0) (h3 : k ≤ 3) : ∃ xs, o = .lst xs := by
  have : k = 1 ∨ k = 2 ∨ k = 3 := by omega
  rcases this with rfl | rfl | rfl
  · obtain ⟨_, _, e, _⟩ := h.1 rfl
    exact ⟨_, e⟩
  · obtain ⟨_, e, _⟩ := h.2.1 rfl
    exact ⟨_, e⟩
  · obtain ⟨_, _, _, e, _⟩ := h.2.2 rfl
    exact ⟨_, e⟩
theorem TyH.lst {n : Nat} {c : Sorts} {H : Hp} (h : TyH n c H) {a : Addr} (ha : c a ≠ 0) : ∃ xs, H a = some (.lst xs) := by
  obtain ⟨l, o, e, s⟩ := h a ha
  obtain ⟨xs, rfl⟩ := s.lst ha l
  exact ⟨xs, e⟩
theorem TyH.c0 {n : Nat} {c : Sorts} {H : Hp} (h : TyH n c H) {a : Addr} (ha : H a = none) : c a = 0 := by
  refine Classical.byContradiction fun z => ?_
  obtain ⟨xs, e⟩ := h.lst z
  rw [ha] at e
  cases e
theorem Sorted.mono {n n' : Nat} {c c' : Sorts} {H H' : Hp} {k : Nat} {o : HO} (hn : n ≤ n') (hc : ∀ b, c b ≠ 0 → c' b = c b) (ht : Tk H H') (h : Sorted n c H k o) : Sorted n' c' H' k o := by
  refine ⟨fun e => ?_, fun e => ?_, fun e => ?_⟩
  · obtain ⟨s, b, e1, e2, e3⟩ := h.1 e
    exact ⟨s, b, e1, e2, by rw [hc b (by omega)]; exact e3⟩
  · obtain ⟨xs, e1, e2, e3⟩ := h.2.1 e
    refine ⟨xs, e1, by omega, fun x hx => ?_⟩
    obtain ⟨b, e4, e5⟩ := e3 x hx
    exact ⟨b, e4, by rw [hc b (by omega)]; exact e5⟩
  · obtain ⟨s, t, ps, e1, e2, e3, e4, e5⟩ := h.2.2 e
    exact ⟨s, t, ps, e1, e2, ht _ _ e3, by omega, e5⟩
/-- what keeps the sorted objects and all tuples -/
theorem TyH.keep {n : Nat} {c : Sorts} {H H' : Hp} (h : TyH n c H) (ht : Tk H H') (hk : ∀ a, c a ≠ 0 → H' a = H a) : TyH n c H' := fun a ha => by
  obtain ⟨l, o, e, s⟩ := h a ha
  exact ⟨l, o, (hk a ha).trans e, s.mono (Nat.le_refl _) (fun _ _ => rfl) ht⟩
theorem TyH.ex {n : Nat} {c : Sorts} {H H' : Hp} (h : TyH n c H) (e : Ex H H') : TyH n c H' := h.keep e.tk fun a ha => by
  obtain ⟨xs, q⟩ := h.lst ha
  rw [q, e _ _ q]
theorem TyH.le {n m : Nat} {c : Sorts} {H : Hp} (h : TyH n c H) (hn : n ≤ m) : TyH m c H := fun a ha => by
  obtain ⟨l, o, e, s⟩ := h a ha
  exact ⟨l, o, e, s.mono hn (fun _ _ => rfl) (Tk.refl _)⟩
/-- a sorted object changed -/
theorem TyH.set {n : Nat} {c : Sorts} {H : Hp} {a : Addr} {o : HO} (h : TyH n c H) (ha : c a ≠ 0) (ho : Sorted n c H (c a) o) : TyH n c (upd H a o) := by
  obtain ⟨xs, q⟩ := h.lst ha
  have t : Tk H (upd H a o) := ((But.refl a H).upd).tkl q
  intro b hb
  by_cases e : b = a
  · subst e
    exact ⟨(h b hb).1, o, upd_same, ho.mono (Nat.le_refl _) (fun _ _ => rfl) t⟩
  · obtain ⟨l, o', e1, s⟩ := h b hb
    exact ⟨l, o', by rw [upd_ne e]; exact e1, s.mono (Nat.le_refl _) (fun _ _ => rfl) t⟩
/-- an object that had no sort gets one -/
theorem TyH.cls {n : Nat} {c : Sorts} {H : Hp} {a : Addr} {k : Nat} {o : HO} (h : TyH n c H) (ha : c a = 0) (hk : k ≤ 3) (q : H a = some o) (ho : Sorted n c H k o) : TyH n (setC c a k) H ∧ ∀ b, c b ≠ 0 → setC c a k b = c b := by
  have hc : ∀ b, c b ≠ 0 → setC c a k b = c b := fun b hb => setC_ne fun e => hb (e ▸ ha)
  refine ⟨fun b hb => ?_, hc⟩
  by_cases e : b = a
  · subst e
    rw [setC_same]
    exact ⟨hk, o, q, ho.mono (Nat.le_refl _) hc (Tk.refl _)⟩
  · rw [setC_ne e] at hb ⊢
    obtain ⟨l, o', e1, s⟩ := h b hb
    exact ⟨l, o', e1, s.mono (Nat.le_refl _) hc (Tk.refl _)⟩
/-- an unsorted list changed -/
theorem TyH.other {n : Nat} {c : Sorts} {H : Hp} {a : Addr} {o : HO} {xs : List V} (h : TyH n c H) (ha : c a = 0) (q : H a = some (.lst xs)) : TyH n c (upd H a o) :=
  h.keep (((But.refl a H).upd).tkl q) fun b hb => upd_ne fun e => hb (e ▸ ha)
theorem TyH.but {n : Nat} {c : Sorts} {H H' : Hp} {p : Addr} (h : TyH n c H) (b : But p H H') (hp : Box H p) (c0 : c p = 0) : TyH n c H' := h.keep (hp.tk b) fun a ha => by
  obtain ⟨xs, q⟩ := h.lst ha
  have ne : a ≠ p := fun e => ha (by rw [e]; exact c0)
  rw [q, b _ _ ne q]
/-- fresh: what is sorted is new to H0 -/
def FreshC (c : Sorts) (H0 : Hp) : Prop := ∀ a, c a ≠ 0 → H0 a = none
theorem FreshC.set {c : Sorts} {H0 : Hp} {a : Addr} {k : Nat} (h : FreshC c H0) (ha : H0 a = none) : FreshC (setC c a k) H0 := fun b hb => by
  by_cases e : b = a
  · rw [e]; exact ha
  · rw [setC_ne e] at hb
    exact h b hb
theorem TyH.get1 {n : Nat} {c : Sorts} {H : Hp} {a : Addr} (h : TyH n c H) (ha : c a = 1) : ∃ (s : Str) (b : Addr), H a = some (.lst [.str s, .ref b]) ∧ TextOk s ∧ c b = 2 := by
  obtain ⟨_, o, e, s⟩ := h a (by omega)
  rw [ha] at s
  obtain ⟨x, b, rfl, h1, h2⟩ := s.1 rfl
  exact ⟨x, b, e, h1, h2⟩
theorem TyH.get2 {n : Nat} {c : Sorts} {H : Hp} {a : Addr} (h : TyH n c H) (ha : c a = 2) : ∃ xs : List V, H a = some (.lst xs) ∧ xs.length ≤ 12 + 5 * n ∧ ∀ x ∈ xs, ∃ b, x = .ref b ∧ c b = 3 := by
  obtain ⟨_, o, e, s⟩ := h a (by omega)
  rw [ha] at s
  obtain ⟨xs, rfl, h1, h2⟩ := s.2.1 rfl
  exact ⟨xs, e, h1, h2⟩
theorem TyH.get3 {n : Nat} {c : Sorts} {H : Hp} {a : Addr} (h : TyH n c H) (ha : c a = 3) : ∃ (s : Str) (t : Addr) (ps : List Str), H a = some (.lst [.str s, .ref t]) ∧ TextOk s ∧ H t = some (.tup (ps.map V.str)) ∧ ps.length ≤ 2 + 7 * n ∧ ∀ p ∈ ps, TextOk p := by
  obtain ⟨_, o, e, s⟩ := h a (by omega)
  rw [ha] at s
  obtain ⟨x, t, ps, rfl, h1, h2⟩ := s.2.2 rfl
  exact ⟨x, t, ps, e, h1, h2⟩
theorem sorted1 {n : Nat} {c : Sorts} {H : Hp} {s : Str} {b : Addr} (hs : TextOk s) (hb : c b = 2) : Sorted n c H 1 (.lst [.str s, .ref b]) := ⟨fun _ => ⟨s, b, rfl, hs, hb⟩, fun e => (nomatch e), fun e => (nomatch e)⟩
theorem sorted2 {n : Nat} {c : Sorts} {H : Hp} {xs : List V} (hl : xs.length ≤ 12 + 5 * n) (hx : ∀ x ∈ xs, ∃ b, x = .ref b ∧ c b = 3) : Sorted n c H 2 (.lst xs) := ⟨fun e => (nomatch e), fun _ => ⟨xs, rfl, hl, hx⟩, fun e => (nomatch e)⟩
theorem sorted3 {n : Nat} {c : Sorts} {H : Hp} {s : Str} {t : Addr} {ps : List Str} (hs : TextOk s) (ht : H t = some (.tup (ps.map V.str))) (hl : ps.length ≤ 2 + 7 * n) (hp : ∀ p ∈ ps, TextOk p) : Sorted n c H 3 (.lst [.str s, .ref t]) := ⟨fun e => (nomatch e), fun e => (nomatch e), fun _ => ⟨s, t, ps, rfl, hs, ht, hl, hp⟩⟩
/-- the rows: a list of such -/
def RowsAt (m : Nat) (c : Sorts) (xs : List V) : Prop := xs.length ≤ m ∧ ∀ x ∈ xs, ∃ b, x = .ref b ∧ c b = 1
theorem RowsAt.mono {m : Nat} {c c' : Sorts} {xs : List V} (h : RowsAt m c xs) (hc : ∀ b, c b ≠ 0 → c' b = c b) : RowsAt m c' xs := ⟨h.1, fun x hx => by
  obtain ⟨b, e, q⟩ := h.2 x hx
  exact ⟨b, e, by rw [hc b (by omega)]; exact q⟩⟩
/-- values that are data, each -/
theorem acc_reps {α : Type} {H : Hp} {f : α → D} {P : α → Prop} : ∀ {acc : List V}, (∀ (j : Nat) (v : V), acc[j]? = some v → ∃ x, P x ∧ Rep H (f x) v) → ∃ xs : List α, xs.length = acc.length ∧ (∀ x ∈ xs, P x) ∧ Reps H (xs.map f) acc
  | [], _ => ⟨[], rfl, fun _ z => (nomatch z), by simp only [List.map, Reps]⟩
  | v :: acc, h => by
    obtain ⟨x, px, rx⟩ := h 0 v rfl
    obtain ⟨xs, hl, hp, hr⟩ := acc_reps (acc := acc) fun j u hj => h (j + 1) u hj
    refine ⟨x :: xs, by simp [hl], fun y hy => ?_, ?_⟩
    · rcases List.mem_cons.1 hy with rfl | hy
      · exact px
      · exact hp y hy
    · simp only [List.map, Reps]
      exact ⟨v, acc, rfl, rx, hr⟩
/-! ### a list compared with the empty one -/
def DpOk (K : PySem.W.Frag) (H : Hp) (v : V) (k : Nat) : Prop := ∃ d, Dp K H v d ∧ d.canLay0 = true ∧ d.depth ≤ k
theorem dpok_str {K : PySem.W.Frag} {H : Hp} {s : Str} {k : Nat} (h : ∀ c ∈ s.cps.toList, c < 0x110000) : DpOk K H (.str s) k := ⟨.str s, .str s, by
  show s.cps.all (· < 0x110000) = true
  rw [Array.all_eq_true']
  intro x hx
  exact decide_eq_true (h x (Array.mem_toList_iff.2 hx)), Nat.zero_le _⟩
theorem dpok_all {K : PySem.W.Frag} {H : Hp} {k : Nat} : ∀ {xs : List V}, (∀ x ∈ xs, DpOk K H x k) → ∃ ds, DpAll K H xs ds ∧ PyData.canLayAll0 ds = true ∧ PyData.depthAll ds ≤ k ∧ ds.length = xs.length
  | [], _ => ⟨[], .nil, rfl, Nat.zero_le _, rfl⟩
  | x :: xs, h => by
    obtain ⟨d, h1, h2, h3⟩ := h x List.mem_cons_self
    obtain ⟨ds, k1, k2, k3, k4⟩ := dpok_all (xs := xs) fun y hy => h y (List.mem_cons_of_mem _ hy)
    refine ⟨d :: ds, .cons h1 k1, ?_, ?_, by simp [k4]⟩
    · show (d.canLay0 && PyData.canLayAll0 ds) = true
      rw [h2, k2]
      rfl
    · show max d.depth (PyData.depthAll ds) ≤ k
      omega
theorem dpok_lst {K : PySem.W.Frag} {H : Hp} {a : Addr} {xs : List V} {k : Nat} (ha : H a = some (.lst xs)) (h : ∀ x ∈ xs, DpOk K H x k) : DpOk K H (.ref a) (k + 1) := by
  obtain ⟨ds, h1, h2, h3, _⟩ := dpok_all h
  refine ⟨.list ds, .lst (sqL ha) h1, h2, ?_⟩
  show PyData.depthAll ds + 1 ≤ k + 1
  omega
theorem dpok_tup {K : PySem.W.Frag} {H : Hp} {a : Addr} {xs : List V} {k : Nat} (ha : H a = some (.tup xs)) (h : ∀ x ∈ xs, DpOk K H x k) : DpOk K H (.ref a) (k + 1) := by
  obtain ⟨ds, h1, h2, h3, _⟩ := dpok_all h
  refine ⟨.tuple ds, .tup (sqT ha) h1, h2, ?_⟩
  show PyData.depthAll ds + 1 ≤ k + 1
  omega
theorem g_neNil {K : PySem.W.Frag} {H : Hp} {Q : VK} {a b : Addr} {xs : List V} (ha : H a = some (.lst xs)) (hb : H b = some (.lst [])) (h : ∀ x ∈ xs, DpOk K H x 60) (q : Q (.bl (!xs.isEmpty)) H) : rNeD K (.ref a) (.ref b) H Q := by
  obtain ⟨ds, h1, h2, h3, h4⟩ := dpok_all h
  refine ⟨.list ds, .list [], .lst (sqL ha) h1, .lst (sqL hb) .nil, ?_, rfl, ?_⟩
  · show (PyData.canLayAll0 ds && decide (PyData.depthAll ds + 1 ≤ 64)) = true
    rw [h2, decide_eq_true (by omega)]
    rfl
  · have e : PyData.eqv (.list ds) (.list []) = xs.isEmpty := by
      show PyData.eqvAll ds [] = xs.isEmpty
      cases ds with
      | nil =>
        have : xs = [] := List.eq_nil_of_length_eq_zero h4.symm
        subst this
        rfl
      | cons d ds =>
        cases xs with
        | nil => cases h4
        | cons x xs => rfl
    rw [e]
    exact q
/-! ### the state while a wood is spoilt -/
structure SpSt (p R : Addr) (n m : Nat) (c : Sorts) (H H1 : Hp) (rows : List V) : Prop where
  bx0 : Box H p
  bt : But p H H1
  bx : Box H1 p
  at_ : H1 R = some (.lst rows)
  ty : TyH n c H1
  fr : FreshC c H
  cR : c R = 0
  hR : H R = none
  rw : RowsAt m c rows
section
variable {p R : Addr} {n m : Nat} {c : Sorts} {H H1 H2 : Hp} {rows : List V}
theorem SpSt.np (s : SpSt p R n m c H H1 rows) {a : Addr} (ha : H a = none) : a ≠ p := fun e => by
  obtain ⟨_, _, _, q⟩ := s.bx0
  rw [← e, ha] at q
  cases q
theorem SpSt.cp (s : SpSt p R n m c H H1 rows) : c p = 0 := Classical.byContradiction fun z => s.np (s.fr p z) rfl
theorem SpSt.free (s : SpSt p R n m c H H1 rows) {a : Addr} (ha : H1 a = none) : H a = none := by
  cases e : H a with
  | none => rfl
  | some o =>
    by_cases z : a = p
    · subst z
      obtain ⟨_, _, _, q⟩ := s.bx
      rw [ha] at q
      cases q
    · rw [s.bt _ _ z e] at ha
      cases ha
theorem SpSt.but (s : SpSt p R n m c H H1 rows) (b : But p H1 H2) (hb : Box H2 p) : SpSt p R n m c H H2 rows :=
  ⟨s.bx0, s.bt.trans b, hb, b _ _ (s.np s.hR) s.at_, s.ty.but b s.bx s.cp, s.fr, s.cR, s.hR, s.rw⟩
theorem SpSt.ex (s : SpSt p R n m c H H1 rows) (e : Ex H1 H2) : SpSt p R n m c H H2 rows := s.but (e.but p) (s.bx.ex e)
/-- an unsorted new list changed -/
theorem SpSt.other (s : SpSt p R n m c H H1 rows) {a : Addr} {o : HO} {xs : List V} (cN : c a = 0) (hN : H a = none) (q : H1 a = some (.lst xs)) (ne : R ≠ a) : SpSt p R n m c H (upd H1 a o) rows :=
  ⟨s.bx0, s.bt.at_new hN, s.bx.at_upd (s.np hN), by rw [upd_ne ne]; exact s.at_, s.ty.other cN q, s.fr, s.cR, s.hR, s.rw⟩
/-- a sorted object changed -/
theorem SpSt.set (s : SpSt p R n m c H H1 rows) {a : Addr} {o : HO} (ha : c a ≠ 0) (ho : Sorted n c H1 (c a) o) : SpSt p R n m c H (upd H1 a o) rows :=
  ⟨s.bx0, s.bt.at_new (s.fr a ha), s.bx.at_upd (s.np (s.fr a ha)), by rw [upd_ne (fun e => ha (by rw [← e]; exact s.cR))]; exact s.at_, s.ty.set ha ho, s.fr, s.cR, s.hR, s.rw⟩
/-- a new sorted object -/
theorem SpSt.cls (s : SpSt p R n m c H H1 rows) {a : Addr} {k : Nat} {o : HO} (ha : c a = 0) (hN : H a = none) (ne : R ≠ a) (hk : k ≤ 3) (q : H1 a = some o) (ho : Sorted n c H1 k o) : SpSt p R n m (setC c a k) H H1 rows ∧ ∀ b, c b ≠ 0 → setC c a k b = c b := by
  obtain ⟨h1, h2⟩ := s.ty.cls ha hk q ho
  exact ⟨⟨s.bx0, s.bt, s.bx, s.at_, h1, s.fr.set hN, by rw [setC_ne ne]; exact s.cR, s.hR, s.rw.mono h2⟩, h2⟩
theorem SpSt.add (s : SpSt p R n m c H H1 rows) {a : Addr} {k : Nat} {o : HO} (ha : H1 a = none) (hk : k ≤ 3) (ho : Sorted n c H1 k o) : SpSt p R n m (setC c a k) H (upd H1 a o) rows ∧ ∀ b, c b ≠ 0 → setC c a k b = c b :=
  (s.ex (Ex.new ha)).cls (s.ty.c0 ha) (s.free ha) (ne_of_none s.at_ ha) hk upd_same (ho.mono (Nat.le_refl _) (fun _ _ => rfl) (Ex.new ha).tk)
/-- other rows -/
theorem SpSt.put (s : SpSt p R n m c H H1 rows) {m' : Nat} {rows' : List V} (h : RowsAt m' c rows') : SpSt p R n m' c H (upd H1 R (.lst rows')) rows' :=
  ⟨s.bx0, s.bt.at_new s.hR, s.bx.at_upd (s.np s.hR), upd_same, s.ty.other s.cR s.at_, s.fr, s.cR, s.hR, h⟩
theorem SpSt.le (s : SpSt p R n m c H H1 rows) {n' m' : Nat} (h1 : n ≤ n') (h2 : m ≤ m') : SpSt p R n' m' c H H1 rows :=
  ⟨s.bx0, s.bt, s.bx, s.at_, s.ty.le h1, s.fr, s.cR, s.hR, Nat.le_trans s.rw.1 h2, s.rw.2⟩
end
theorem cutV_strs (ps : List Str) (lo hi : Option Int) : ∃ qs : List Str, cutV (ps.map V.str) lo hi = qs.map V.str ∧ (∀ q ∈ qs, q ∈ ps) := by
  refine ⟨((ps.drop (HT.sIx (ps.map V.str).length 0 lo)).take (HT.sIx (ps.map V.str).length (ps.map V.str).length hi - HT.sIx (ps.map V.str).length 0 lo)), ?_, fun q hq => List.mem_of_mem_drop (List.mem_of_mem_take hq)⟩
  unfold cutV
  rw [List.map_take, List.map_drop]
theorem cutV_to (xs : List V) (k : Nat) : (cutV xs none (some (k : Int))).length ≤ k := by
  unfold cutV
  rw [HT.sIx_nat, HT.sIx_none, List.length_take]
  omega
theorem cutV_from (xs : List V) (k : Nat) : (cutV xs (some (k : Int)) none).length ≤ xs.length - min k xs.length := by
  unfold cutV
  rw [HT.sIx_nat, HT.sIx_none, List.length_take, List.length_drop]
  omega
theorem mk_hard (m : Mk) : (mkD m).hard = true := by
  have := mks_hard [m]
  simpa only [List.map, D.hards, Bool.and_true] using this
theorem cutV_lo (xs : List V) {lo : Int} {spot : Nat} (h : (spot : Int) - 6 ≤ lo) (hs : spot ≤ xs.length) : (cutV xs (some lo) none).length + spot ≤ xs.length + 6 := by
  unfold cutV
  rw [HT.sIx_none, List.length_take, List.length_drop]
  unfold HT.sIx
  simp only
  split <;> omega
theorem i_or2 {p : Prop} [Decidable p] {A B : Prop} (hB : B) (h1 : p → B → A) : if decide p = true then A else B := by
  by_cases c : p
  · rw [if_pos (decide_eq_true c)]; exact h1 c hB
  · rw [if_neg (by rw [decide_eq_false c]; exact Bool.false_ne_true)]; exact hB
theorem i_F2 {A B : Prop} (h : if false = true then A else B) : B := by
  rw [if_neg Bool.false_ne_true] at h
  exact h
theorem g_repT01 {K : PySem.W.Frag} {H : Hp} {Q : VK} {l : Addr} {k : Int} {s : Str} (hl : H l = some (.tup [.str s])) (hk : k = 0 ∨ k = 1) (q : ∀ (t : Addr) (H' : Hp) (ps : List Str), Ex H H' → H' t = some (.tup (ps.map V.str)) → ps.length ≤ 1 → (∀ x ∈ ps, x = s) → Q (.ref t) H') : rRepT01 K (.ref l) (.int k) H Q :=
  ⟨l, k, _, rfl, rfl, hl, hk, fun _ => q l H [s] (Ex.refl _) hl (Nat.le_refl _) (fun x hx => List.mem_singleton.1 hx), fun _ t ht => q t _ [] (Ex.new ht) upd_same (Nat.zero_le _) (fun x hx => nomatch hx)⟩
theorem text_rep {x : Str} {n : Int} {c : Nat} (hx : ∀ d ∈ x.cps.toList, d < 0x110000) (hl : n.toNat * x.length ≤ 900) (hc : c < 0x110000) : TextOk (repS x n ++ ⟨#[c]⟩) := by
  refine ⟨?_, fun d hd => ?_⟩
  · have e : (repS x n ++ ⟨#[c]⟩).length = (repS x n).length + 1 := by
      show ((repS x n).cps ++ #[c]).size = (repS x n).cps.size + 1
      simp
    rw [e, repS_len]
    omega
  · have e : (repS x n ++ ⟨#[c]⟩).cps.toList = (repS x n).cps.toList ++ [c] := by
      show ((repS x n).cps ++ #[c]).toList = _
      simp
    rw [e] at hd
    rcases List.mem_append.1 hd with hd | hd
    · have hd2 : d ∈ (List.replicate n.toNat x.cps.toList).flatten := by
        have : (repS x n).cps.toList = (List.replicate n.toNat x.cps.toList).flatten := by unfold repS; simp
        rw [← this]; exact hd
      obtain ⟨l, hl, hd3⟩ := List.mem_flatten.1 hd2
      rw [List.eq_of_mem_replicate hl] at hd3
      exact hx d hd3
    · rw [List.mem_singleton.1 hd]
      exact hc
end Bk

set_option Elab.async false
set_option linter.all false
set_option maxRecDepth 100000
set_option maxHeartbeats 4000000
/-! Bk20: zip(a, b, strict=True), a and b lists or tuples of one length. -/
namespace Bk
open PySem PySem.Spec PyProof.Rows L2
abbrev IsZipS (h : Heap) (z TI TO : Addr) (f0 : Value) : Prop := h.get? z = some { cls := .type "zip", dict := none, data := .fields #[f0, .bool false, .bool true, .ref TI, .ref TO], slots := #[] }
section
variable {prog : Program} {w : World} {A : Around} {E : Value → Shared → Prop} {s : Shared}
theorem oe_item {k : Bool} {it l : Addr} {i : Nat} {xs : Array Value} {x : Value} {Q : Option Value → Shared → Prop} (hit : SIt s.heap k it l i xs) (hn : l ≠ it) (hx : xs[i]? = some x)
    (hQ : ∀ h', SIt h' k it l (i + 1) xs → Heap.SameBut it s.heap h' → Q (some x) { s with heap := h' }) : wpAny (model prog w) A (Builtin.SmallTypes.nextOrEnd (.ref it)) Q E s := by
  unfold Builtin.SmallTypes.nextOrEnd
  exact wpAny_bind (wpAny_attempt (sit_item hit hn hx fun h' a b => wpAny_pure (hQ h' a b)))
theorem oe_end {k : Bool} {it l : Addr} {i : Nat} {xs : Array Value} {Q : Option Value → Shared → Prop} (hh : A.handled = none) (hit : SIt s.heap k it l i xs) (hx : xs[i]? = none)
    (hQ : ∀ h', Heap.ExtBut it s.heap h' → Q none { s with heap := h' }) : wpAny (model prog w) A (Builtin.SmallTypes.nextOrEnd (.ref it)) Q E s := by
  unfold Builtin.SmallTypes.nextOrEnd
  refine wpAny_bind (wpAny_attempt (sit_end hh hit hx fun h' e hs he => ?_))
  obtain ⟨o, ho, hc⟩ := he
  refine wpAny_bind (wpAny_isInstance (T := "StopIteration") (b := true) ⟨o, ho, hc⟩ isSubtype_stop ?_)
  exact wpAny_pure (hQ _ hs)
theorem sz_item {k1 k2 : Bool} {z TI TO i1 i2 l1 l2 : Addr} {i : Nat} {xs ys : Array Value} {x y a b : Value} {Q : Value → Shared → Prop} (D : ZipApart z TI TO i1 i2 l1 l2)
    (hz : IsZipS s.heap z TI TO .none) (hTI : IsPair s.heap TI (.ref i1) (.ref i2)) (hTO : IsPair s.heap TO a b) (h1 : SIt s.heap k1 i1 l1 i xs) (h2 : SIt s.heap k2 i2 l2 i ys) (hx : xs[i]? = some x) (hy : ys[i]? = some y)
    (hQ : ∀ h', IsZipS h' z TI TO (rawInt s.heap.objs.size) → IsPair h' TO x y → SIt h' k1 i1 l1 (i + 1) xs → SIt h' k2 i2 l2 (i + 1) ys → IsPair h' s.heap.objs.size x y → h'.objs.size = s.heap.objs.size + 1 →
      (∀ c o, c ≠ z → c ≠ TO → c ≠ i1 → c ≠ i2 → s.heap.get? c = some o → h'.get? c = some o) → Q (.ref s.heap.objs.size) { s with heap := h' }) :
    wpAny (model prog w) A (Builtin.«zip.__next__» ⟨[.ref z], []⟩) (fun fin s' => ∃ v, fin = .done (.ret v) ∧ Q v s') E s := by
  show wpAny _ _ (field (.ref z) 2 >>= _) _ _ _
  refine wpAny_bind (wpAny_field hz rfl (x := .bool true) rfl ?_)
  show wpAny _ _ (field (.ref z) 3 >>= _) _ _ _
  refine wpAny_bind (wpAny_field hz rfl (x := .ref TI) rfl ?_)
  refine wpAny_bind (wpAny_seqItems hTI rfl ?_)
  show wpAny _ _ (Builtin.SmallTypes.ownedTupleIsFree (.ref z) >>= _) _ _ _
  refine wpAny_bind ?_
  unfold Builtin.SmallTypes.ownedTupleIsFree
  refine wpAny_bind (wpAny_field hz rfl (x := .none) rfl (wpAny_pure ?_))
  simp only [if_true]
  refine wpAny_bind (wpAny_rule ?_)
  refine wpAny_bind (wpAny_field hz rfl (x := .ref TO) rfl ?_)
  refine wpAny_bind (wpAny_setField_rec hz (by simp) fun g1 hz1 hs1 => ?_)
  replace hz1 : IsZipS g1 z TI TO .ellipsis := hz1
  refine wpAny_bind ?_
  simp only [List.zipIdx_cons, List.zipIdx_nil, List.forIn_cons, List.forIn_nil]
  refine wpAny_bind (wpAny_bind (wpAny_onRaise ?_))
  show wpAny _ _ (Builtin.SmallTypes.nextOrEnd (.ref i1)) _ _ _
  refine oe_item (h1.keep (fun o e => hs1.extBut _ _ D.i1z e) (fun o e => hs1.extBut _ _ D.l1z e)) D.l1i1 hx fun g2 h12 hs2 => ?_
  have hTO2 : IsPair g2 TO a b := hs2.extBut _ _ D.TOi1 (hs1.extBut _ _ D.TOz hTO)
  refine wpAny_bind (wpAny_seqItems hTO2 rfl ?_)
  refine wpAny_bind (wpAny_updateSeq_pair hTO2 fun g3 hTO3 hs3 => ?_)
  replace hTO3 : IsPair g3 TO x b := hTO3
  refine wpAny_bind (wpAny_letGo (wpAny_pure ?_))
  refine wpAny_bind (wpAny_bind (wpAny_onRaise ?_))
  show wpAny _ _ (Builtin.SmallTypes.nextOrEnd (.ref i2)) _ _ _
  refine oe_item (h2.keep (fun o e => hs3.extBut _ _ D.TOi2.symm (hs2.extBut _ _ D.i12.symm (hs1.extBut _ _ D.i2z e))) (fun o e => hs3.extBut _ _ D.l2TO (hs2.extBut _ _ D.l2i1 (hs1.extBut _ _ D.l2z e)))) D.l2i2 hy fun g4 h24 hs4 => ?_
  have hTO4 : IsPair g4 TO x b := hs4.extBut _ _ D.TOi2 hTO3
  refine wpAny_bind (wpAny_seqItems hTO4 rfl ?_)
  refine wpAny_bind (wpAny_updateSeq_pair hTO4 fun g5 hTO5 hs5 => ?_)
  replace hTO5 : IsPair g5 TO x y := hTO5
  refine wpAny_bind (wpAny_letGo (wpAny_pure (wpAny_pure ?_)))
  refine wpAny_bind (wpAny_seqItems hTO5 rfl ?_)
  refine wpAny_bind (wpAny_newTuple ?_)
  have hsz : g5.objs.size = s.heap.objs.size := by rw [hs5.1, hs4.1, hs3.1, hs2.1, hs1.1]
  have kp : ∀ c o, c ≠ z → c ≠ TO → c ≠ i1 → c ≠ i2 → s.heap.get? c = some o → g5.get? c = some o := fun c o c1 c2 c3 c4 e =>
    hs5.extBut _ _ c2 (hs4.extBut _ _ c4 (hs3.extBut _ _ c2 (hs2.extBut _ _ c3 (hs1.extBut _ _ c1 e))))
  have hz5 : IsZipS g5 z TI TO .ellipsis := hs5.extBut _ _ D.TOz.symm (hs4.extBut _ _ D.i2z.symm (hs3.extBut _ _ D.TOz.symm (hs2.extBut _ _ D.i1z.symm hz1)))
  have h15 : SIt g5 k1 i1 l1 (i + 1) xs := h12.keep (fun o e => hs5.extBut _ _ D.TOi1.symm (hs4.extBut _ _ D.i12 (hs3.extBut _ _ D.TOi1.symm e))) (fun o e => hs5.extBut _ _ D.l1TO (hs4.extBut _ _ D.l1i2 (hs3.extBut _ _ D.l1TO e)))
  have h25 : SIt g5 k2 i2 l2 (i + 1) ys := h24.keep (fun o e => hs5.extBut _ _ D.TOi2.symm e) (fun o e => hs5.extBut _ _ D.l2TO e)
  have hzlt : z < g5.objs.size := Heap.lt_size hz5
  show wpAny _ _ (Builtin.SmallTypes.ownedTupleHandOut (.ref z) (.ref g5.objs.size) >>= _) _ _ _
  refine wpAny_bind ?_
  unfold Builtin.SmallTypes.ownedTupleHandOut
  have hz6 : IsZipS (g5.push { cls := .type "tuple", data := .seq #[x, y] }) z TI TO .ellipsis := Heap.get?_push_of_some _ hz5
  refine wpAny_bind (wpAny_setField_rec hz6 (by simp) fun g7 hz7 hs7 => ?_)
  replace hz7 : IsZipS g7 z TI TO (rawInt g5.objs.size) := hz7
  refine wpAny_setField_rec hz7 (by simp) fun g8 hz8 hs8 => ?_
  replace hz8 : IsZipS g8 z TI TO (rawInt g5.objs.size) := hz8
  have up : ∀ c o, c ≠ z → g5.get? c = some o → g8.get? c = some o := fun c o c1 e => hs8.extBut _ _ c1 (hs7.extBut _ _ c1 (Heap.get?_push_of_some _ e))
  have hT8 : IsPair g8 g5.objs.size x y := hs8.extBut _ _ (Nat.ne_of_gt hzlt) (hs7.extBut _ _ (Nat.ne_of_gt hzlt) (Heap.get?_push_size _ rfl))
  have z8 : g8.objs.size = g5.objs.size + 1 := by rw [hs8.1, hs7.1, Heap.size_push]
  rw [hsz] at hz8 hT8 z8
  refine wpAny_pure ⟨_, rfl, ?_⟩
  show Q (.ref g5.objs.size) _
  rw [hsz]
  exact hQ g8 hz8 (up _ _ D.TOz hTO5) (h15.keep (fun o e => up _ o D.i1z e) (fun o e => up _ o D.l1z e)) (h25.keep (fun o e => up _ o D.i2z e) (fun o e => up _ o D.l2z e)) hT8 z8 fun c o c1 c2 c3 c4 e => up c o c1 (kp c o c1 c2 c3 c4 e)
theorem sz_end {k1 k2 : Bool} {z TI TO i1 i2 l1 l2 : Addr} {i : Nat} {xs ys : Array Value} {a b : Value} {Q : Fin → Shared → Prop} (hh : A.handled = none) (D : ZipApart z TI TO i1 i2 l1 l2)
    (hz : IsZipS s.heap z TI TO .none) (hTI : IsPair s.heap TI (.ref i1) (.ref i2)) (hTO : IsPair s.heap TO a b) (h1 : SIt s.heap k1 i1 l1 i xs) (h2 : SIt s.heap k2 i2 l2 i ys) (hx : xs[i]? = none) (hy : ys[i]? = none)
    (hE : ∀ h' e, (∀ c o, c ≠ z → c ≠ TO → c ≠ i1 → c ≠ i2 → s.heap.get? c = some o → h'.get? c = some o) → (∃ o, h'.get? e = some o ∧ o.cls = .type "StopIteration") → E (.ref e) { s with heap := h' }) :
    wpAny (model prog w) A (Builtin.«zip.__next__» ⟨[.ref z], []⟩) Q E s := by
  show wpAny _ _ (field (.ref z) 2 >>= _) _ _ _
  refine wpAny_bind (wpAny_field hz rfl (x := .bool true) rfl ?_)
  show wpAny _ _ (field (.ref z) 3 >>= _) _ _ _
  refine wpAny_bind (wpAny_field hz rfl (x := .ref TI) rfl ?_)
  refine wpAny_bind (wpAny_seqItems hTI rfl ?_)
  show wpAny _ _ (Builtin.SmallTypes.ownedTupleIsFree (.ref z) >>= _) _ _ _
  refine wpAny_bind ?_
  unfold Builtin.SmallTypes.ownedTupleIsFree
  refine wpAny_bind (wpAny_field hz rfl (x := .none) rfl (wpAny_pure ?_))
  simp only [if_true]
  refine wpAny_bind (wpAny_rule ?_)
  refine wpAny_bind (wpAny_field hz rfl (x := .ref TO) rfl ?_)
  refine wpAny_bind (wpAny_setField_rec hz (by simp) fun g1 hz1 hs1 => ?_)
  replace hz1 : IsZipS g1 z TI TO .ellipsis := hz1
  refine wpAny_bind ?_
  simp only [List.zipIdx_cons, List.zipIdx_nil, List.forIn_cons, List.forIn_nil]
  refine wpAny_bind (wpAny_bind (wpAny_onRaise ?_))
  show wpAny _ _ (Builtin.SmallTypes.nextOrEnd (.ref i1)) _ _ _
  refine oe_end hh (h1.keep (fun o e => hs1.extBut _ _ D.i1z e) (fun o e => hs1.extBut _ _ D.l1z e)) hx fun g2 hs2 => ?_
  have hz2 : IsZipS g2 z TI TO .ellipsis := hs2 _ _ D.i1z.symm hz1
  refine wpAny_bind (wpAny_setField_rec hz2 (by simp) fun g3 hz3 hs3 => ?_)
  refine wpAny_bind ?_
  show wpAny _ _ (forIn (([Value.ref i1, Value.ref i2].drop 1).zipIdx 1) _ _ >>= _) _ _ _
  refine wpAny_bind ?_
  simp only [List.drop_succ_cons, List.drop_zero, List.zipIdx_cons, List.zipIdx_nil, List.forIn_cons, List.forIn_nil]
  refine wpAny_bind (wpAny_bind (oe_end hh (h2.keep (fun o e => hs3.extBut _ _ D.i2z (hs2 _ _ D.i12.symm (hs1.extBut _ _ D.i2z e))) (fun o e => hs3.extBut _ _ D.l2z (hs2 _ _ D.l2i1 (hs1.extBut _ _ D.l2z e)))) hy fun g4 hs4 => ?_))
  simp only [Option.isSome_none, Bool.false_eq_true, if_false]
  refine wpAny_pure (wpAny_pure (wpAny_bind (wpAny_rule ?_)))
  show wpAny _ _ (newExc (.type "StopIteration") [] >>= _) _ _ _
  refine wpAny_bind ?_
  simp only [newExc, newTuple]
  refine wpAny_bind (wpAny_newObj_type ?_ (by size_fits))
  refine wpAny_bind (m := firstArgMember _ _) (wpAny_of_eq (a := Value.none) (by first | rfl | (simp only [firstArgMember]; rfl)) ?_)
  refine wpAny_newObj_type ?_ (by size_fits)
  simp only [raiseNew]
  refine wpAny_bind (wpAny_handled ?_)
  first | rw [show A.in1.handled = none from hh] | rw [hh]
  refine wpAny_bind (wpAny_pure (wpAny_throw ?_))
  refine hE _ _ (fun c o c1 c2 c3 c4 e => Heap.get?_push_of_some _ (Heap.get?_push_of_some _ (hs4 _ _ c4 (hs3.extBut _ _ c1 (hs2 _ _ c3 (hs1.extBut _ _ c1 e)))))) ⟨_, Heap.get?_push_size _ rfl, rfl⟩
theorem sz_nextItem {k1 k2 : Bool} {z TI TO i1 i2 l1 l2 : Addr} {i : Nat} {xs ys : Array Value} {x y a b : Value} {Q : Option Value → Shared → Prop} (D : ZipApart z TI TO i1 i2 l1 l2)
    (hz : IsZipS s.heap z TI TO .none) (hTI : IsPair s.heap TI (.ref i1) (.ref i2)) (hTO : IsPair s.heap TO a b) (h1 : SIt s.heap k1 i1 l1 i xs) (h2 : SIt s.heap k2 i2 l2 i ys) (hx : xs[i]? = some x) (hy : ys[i]? = some y)
    (hQ : ∀ h', IsZipS h' z TI TO (rawInt s.heap.objs.size) → IsPair h' TO x y → SIt h' k1 i1 l1 (i + 1) xs → SIt h' k2 i2 l2 (i + 1) ys → IsPair h' s.heap.objs.size x y → h'.objs.size = s.heap.objs.size + 1 →
      (∀ c o, c ≠ z → c ≠ TO → c ≠ i1 → c ≠ i2 → s.heap.get? c = some o → h'.get? c = some o) → Q (some (.ref s.heap.objs.size)) { s with heap := h' }) : wpAny (model prog w) A (pyNext (.ref z)) Q E s := by
  have hT : s.TypeIs (.ref z) "zip" := ⟨_, hz, rfl⟩
  unfold pyNext
  exact wpAny_bind (wpAny_attempt (wpAny_callSpecial?_slot (name := Str.ofString "__next__") hT F.slot_zip_next
    (wpAny_call_entry F.slot_zip_next hT F.entry_zip_next (sz_item D hz hTI hTO h1 h2 hx hy fun h' a1 a2 a3 a4 a5 a6 a7 => wpAny_pure (hQ h' a1 a2 a3 a4 a5 a6 a7)) (F.args_zip_next_1 _))))
theorem sz_nextEnd {k1 k2 : Bool} {z TI TO i1 i2 l1 l2 : Addr} {i : Nat} {xs ys : Array Value} {a b : Value} {Q : Option Value → Shared → Prop} (hh : A.handled = none) (D : ZipApart z TI TO i1 i2 l1 l2)
    (hz : IsZipS s.heap z TI TO .none) (hTI : IsPair s.heap TI (.ref i1) (.ref i2)) (hTO : IsPair s.heap TO a b) (h1 : SIt s.heap k1 i1 l1 i xs) (h2 : SIt s.heap k2 i2 l2 i ys) (hx : xs[i]? = none) (hy : ys[i]? = none)
    (hQ : ∀ h', (∀ c o, c ≠ z → c ≠ TO → c ≠ i1 → c ≠ i2 → s.heap.get? c = some o → h'.get? c = some o) → Q none { s with heap := h' }) : wpAny (model prog w) A (pyNext (.ref z)) Q E s := by
  have hT : s.TypeIs (.ref z) "zip" := ⟨_, hz, rfl⟩
  unfold pyNext
  refine wpAny_bind (wpAny_attempt (wpAny_callSpecial?_slot (name := Str.ofString "__next__") hT F.slot_zip_next
    (wpAny_call_entry F.slot_zip_next hT F.entry_zip_next (sz_end hh D hz hTI hTO h1 h2 hx hy fun h' e hk he => ?_) (F.args_zip_next_1 _))))
  obtain ⟨o, ho, hc⟩ := he
  refine wpAny_bind (wpAny_isInstance (T := "StopIteration") (b := true) ⟨o, ho, hc⟩ isSubtype_stop ?_)
  exact wpAny_pure (hQ _ hk)
theorem sz_go {elts : List Expr} {x1} {pos : Pos} {z TI TO T : Addr} {Q : Unit → Shared → Prop} (hz : IsZipS s.heap z TI TO (rawInt T)) (hQ : ∀ h', IsZipS h' z TI TO .none → Heap.SameBut z s.heap h' → Q () { s with heap := h' }) :
    wpAny (model prog w) A (letOwnedTupleGo (.Tuple elts x1 pos) (.ref z) (.ref T)) Q E s := by
  unfold letOwnedTupleGo
  refine wpAny_bind (wpAny_load hz ?_)
  show wpAny _ _ (if (["enumerate", "zip", "dict_itemiterator", "dict_reverseitemiterator", "odict_iterator", "itertools.zip_longest", "itertools.pairwise"].contains "zip" && (#[rawInt T, .bool false, .bool true, .ref TI, .ref TO] : Array Value)[0]? == some (rawInt T)) = true then _ else _) Q E s
  rw [if_pos (by simp)]
  refine wpAny_bind (wpAny_rule ?_)
  show wpAny _ _ (setField (.ref z) 0 .none) Q E s
  exact wpAny_setField_rec hz (by simp) fun h' hz' hs' => hQ h' hz' hs'
theorem sz_iter {z TI TO : Addr} {f0 : Value} {Q : Value → Shared → Prop} (hz : IsZipS s.heap z TI TO f0) (h : Q (.ref z) s) : wpAny (model prog w) A (pyIter (.ref z)) Q E s := by
  have hT : s.TypeIs (.ref z) "zip" := ⟨_, hz, rfl⟩
  refine wpAny_pyIter_slot hT F.slot_zip_iter (wpAny_call_entry F.slot_zip_iter hT F.entry_zip_iter ?_ (F.args_zip_iter_1 _))
  show wpAny _ _ (ret (.ref z)) _ _ s
  exact wpAny_pure ⟨_, rfl, "zip", _, hT, F.slot_zip_next.lookup, h⟩
end
theorem typeCall_zipS (a b v : Value) : checkTypeCall "zip" ⟨[a, b], [(Str.ofString "strict", v)]⟩ = pure () := by kernel_rfl
theorem newCall_zipS (a b v : Value) : checkBuiltinCall "zip.__new__" ⟨[.type "zip", a, b], [(Str.ofString "strict", v)]⟩ = pure () := by kernel_rfl
theorem args_zipS (obj a b v : Value) : argsOk "object.__init__" ⟨[obj, a, b], [(Str.ofString "strict", v)]⟩ := by unfold argsOk; kernel_rfl
abbrev szZ (h : Heap) (o1 o2 : Obj) : Heap := (gzO2 h o1 o2).push { cls := .type "zip", data := .fields #[.none, .bool false, .bool true, .ref ((h.push o1).push o2).objs.size, .ref (gzT2 h o1 o2).objs.size] }
theorem meets_zipS {v1 v2 : Value} {o1 o2 : Obj} {H1 H2 : Heap → Prop} (B1 : Begins v1 o1 H1) (B2 : Begins v2 o2 H2) :
    Meets (Builtin.«zip.__new__» ⟨[.type "zip", v1, v2], [(Str.ofString "strict", .bool true)]⟩) (fun _ R s => (H1 s.heap ∧ H2 s.heap) ∧ R (.ok (.ret (.ref (gzO2 s.heap o1 o2).objs.size))) { s with heap := szZ s.heap o1 o2 }) :=
  .of_wp fun prog w A R s h => by
    obtain ⟨hp, g, d, tk, os⟩ := s
    obtain ⟨⟨h1, h2⟩, h⟩ := h
    have hsub := sub_zip
    have e2 : (Str.ofString "strict" != ("strict" : Str)) = false := by decide +kernel
    have q1 : ∀ {A' : Around} {E : Value → Shared → Prop} {Q : Value → Shared → Prop}, Q (.ref hp.objs.size) ⟨(hp.push o1), g, d, tk, os⟩ → wpAny (model prog w) A' (pyIter v1) Q E ⟨hp, g, d, tk, os⟩ :=
      fun q => B1.iter prog w _ _ ⟨hp, g, d, tk, os⟩ _ h1 q
    have q2 : ∀ {A' : Around} {E : Value → Shared → Prop} {Q : Value → Shared → Prop}, Q (.ref (hp.push o1).objs.size) ⟨((hp.push o1).push o2), g, d, tk, os⟩ → wpAny (model prog w) A' (pyIter v2) Q E ⟨(hp.push o1), g, d, tk, os⟩ :=
      fun q => B2.iter prog w _ _ ⟨(hp.push o1), g, d, tk, os⟩ _ (B2.keeps _ _ h2 fun b o' e => Heap.get?_push_of_some _ e) q
    wp_walk using q1, q2
    exact ⟨_, rfl, h⟩
section
variable {prog : Program} {w : World} {A : Around} {E : Value → Shared → Prop} {s : Shared}
theorem zipS_begins {v1 v2 : Value} {o1 o2 : Obj} {H1 H2 : Heap → Prop} {Q : Value → Shared → Prop} (B1 : Begins v1 o1 H1) (B2 : Begins v2 o2 H2) (h1 : H1 s.heap) (h2 : H2 s.heap)
    (h : ∀ h', IsZipS h' (s.heap.objs.size + 4) (s.heap.objs.size + 2) (s.heap.objs.size + 3) .none → IsPair h' (s.heap.objs.size + 2) (.ref s.heap.objs.size) (.ref (s.heap.objs.size + 1)) →
      IsPair h' (s.heap.objs.size + 3) .none .none → h'.get? s.heap.objs.size = some o1 → h'.get? (s.heap.objs.size + 1) = some o2 → h'.objs.size = s.heap.objs.size + 5 →
      (∀ c o, s.heap.get? c = some o → h'.get? c = some o) → Q (.ref (s.heap.objs.size + 4)) { s with heap := h' }) :
    wpAny (model prog w) A (call (.type "zip") [v1, v2] [(Str.ofString "strict", .bool true)]) Q E s := by
  refine callType_newKw F.called_zip (by decide) (typeCall_zipS _ _ _) (newCall_zipS _ _ _) (fun obj => args_zipS obj _ _ _) F.entry_zip_new (meets_zipS B1 B2) ⟨⟨h1, h2⟩, ?_⟩
  have z1 : (s.heap.push o1).objs.size = s.heap.objs.size + 1 := by rw [Heap.size_push]
  have z2 : ((s.heap.push o1).push o2).objs.size = s.heap.objs.size + 2 := by rw [Heap.size_push, z1]
  have zT : (gzT2 s.heap o1 o2).objs.size = s.heap.objs.size + 3 := by rw [Heap.size_push, z2]
  have zO : (gzO2 s.heap o1 o2).objs.size = s.heap.objs.size + 4 := by rw [Heap.size_push, zT]
  have zZ : (szZ s.heap o1 o2).objs.size = s.heap.objs.size + 5 := by rw [Heap.size_push, zO]
  have gZ : (szZ s.heap o1 o2).get? (gzO2 s.heap o1 o2).objs.size = some { cls := .type "zip", data := .fields #[.none, .bool false, .bool true, .ref ((s.heap.push o1).push o2).objs.size, .ref (gzT2 s.heap o1 o2).objs.size] } := Heap.get?_push_size _ rfl
  have gO : (szZ s.heap o1 o2).get? (gzT2 s.heap o1 o2).objs.size = some { cls := .type "tuple", data := .seq #[.none, .none] } := Heap.get?_push_of_some _ (Heap.get?_push_size _ rfl)
  have gT : (szZ s.heap o1 o2).get? ((s.heap.push o1).push o2).objs.size = some { cls := .type "tuple", data := .seq #[.ref s.heap.objs.size, .ref (s.heap.push o1).objs.size] } := Heap.get?_push_of_some _ (Heap.get?_push_of_some _ (Heap.get?_push_size _ rfl))
  have g1 : (szZ s.heap o1 o2).get? s.heap.objs.size = some o1 := Heap.get?_push_of_some _ (Heap.get?_push_of_some _ (Heap.get?_push_of_some _ (Heap.get?_push_of_some _ (Heap.get?_push_size _ B1.free))))
  have g2 : (szZ s.heap o1 o2).get? (s.heap.push o1).objs.size = some o2 := Heap.get?_push_of_some _ (Heap.get?_push_of_some _ (Heap.get?_push_of_some _ (Heap.get?_push_size _ B2.free)))
  rw [zO, zT, z2] at gZ
  rw [zT] at gO
  rw [z2, z1] at gT
  rw [z1] at g2
  show _ ∧ _
  rw [zO]
  exact ⟨⟨_, gZ, rfl⟩, h _ gZ gT gO g1 g2 zZ fun c o e => Heap.get?_push_of_some _ (Heap.get?_push_of_some _ (Heap.get?_push_of_some _ (Heap.get?_push_of_some _ (Heap.get?_push_of_some _ e))))⟩
end
/-! ### the turns -/
def SqK (K : PySem.W.Frag) (H : Hp) (k : Bool) (a : Addr) (xs : List V) : Prop := match k with
  | true => SqT K H a xs
  | false => SqL K H a xs
def KI (h : Heap) (k : Bool) (it l : Addr) (i : Nat) : Prop := match k with
  | true => h.IsTupleIter it l i
  | false => h.IsListIter it l i
def ItS (K : PySem.W.Frag) (k1 k2 : Bool) (a b : Addr) : It :=
  ⟨fun i H => ∃ (xs ys : List V) (x y : V), SqK K H k1 a xs ∧ SqK K H k2 b ys ∧ xs[i]? = some x ∧ ys[i]? = some y,
    fun i H v H' => ∃ T x y, v = .ref T ∧ H T = none ∧ H' = upd H T (.tup [x, y]) ∧ (∀ xs, SqK K H k1 a xs → xs[i]? = some x) ∧ ∀ ys, SqK K H k2 b ys → ys[i]? = some y,
    fun i H => ∃ xs ys : List V, SqK K H k1 a xs ∧ SqK K H k2 b ys ∧ xs.length ≤ i ∧ ys.length ≤ i⟩
theorem KI.get {h : Heap} {k : Bool} {it l : Addr} {i : Nat} (x : KI h k it l i) : ∃ o, h.get? it = some o ∧ ∀ v, o.data ≠ .cell v := by
  cases k with
  | true =>
    obtain ⟨o, e1, _, d1⟩ := x
    exact ⟨o, e1, fun v q => by rw [d1] at q; cases q⟩
  | false =>
    obtain ⟨o, e1, _, d1⟩ := x
    exact ⟨o, e1, fun v q => by rw [d1] at q; cases q⟩
theorem KI.at {h h' : Heap} {k : Bool} {it l : Addr} {i : Nat} (x : KI h k it l i) (f : ∀ o, h.get? it = some o → h'.get? it = some o) : KI h' k it l i := by
  cases k with
  | true => obtain ⟨o, e1, e2⟩ := x; exact ⟨o, f o e1, e2⟩
  | false => obtain ⟨o, e1, e2⟩ := x; exact ⟨o, f o e1, e2⟩
theorem SIt.ki {h : Heap} {k : Bool} {it l : Addr} {i : Nat} {xs : Array Value} (x : SIt h k it l i xs) : KI h k it l i := by
  cases k with
  | true => exact x.1
  | false => exact x.1
section
variable {X : Cx} {pins : List (Addr × Obj)} {σ : L2.St} {H : Hp} {s : Shared}
theorem sqk_its {k : Bool} {a : Addr} {xs : List V} (I : Inv X pins σ H s) (h : SqK X.K H k a xs) : ∃ its, Vals xs its ∧ ∀ {it : Addr} {i : Nat}, KI s.heap k it a i → SIt s.heap k it a i its.toArray := by
  cases k with
  | true =>
    obtain ⟨its, rv, p, _⟩ := I.tuple h
    exact ⟨its, rv, fun x => ⟨x, p⟩⟩
  | false =>
    obtain ⟨its, rv, p, _⟩ := I.list h
    exact ⟨its, rv, fun x => ⟨x, p.isList⟩⟩
theorem sqk_inj {k : Bool} {a : Addr} {xs ys : List V} (I : Inv X pins σ H s) (h : SqK X.K H k a xs) (h' : SqK X.K H k a ys) : xs = ys := by
  cases k with
  | true => exact I.tuple_inj h h'
  | false => exact I.list_inj h h'
end
theorem turn_zipS {P : Program} {w : World} {K : PySem.W.Frag} {elts : List Expr} {kk : Nat} {tpos : Pos} {k1 k2 : Bool} {a b z TI TO i1 i2 : Addr} (D : ZipApart z TI TO i1 i2 a b) :
    Turn P w K (.Tuple elts kk tpos) (ItS K k1 k2 a b) [z, TI, TO, i1, i2] z (fun i h => IsZipS h z TI TO .none ∧ IsPair h TI (.ref i1) (.ref i2) ∧ (∃ x y, IsPair h TO x y) ∧ KI h k1 i1 a i ∧ KI h k2 i2 b i) where
  mem := by simp
  obj := fun i h st c hc => by
    obtain ⟨hz, hTI, ⟨x, y, hTO⟩, h1, h2⟩ := st
    obtain ⟨o1, e1, d1⟩ := h1.get
    obtain ⟨o2, e2, d2⟩ := h2.get
    have e' : c = z ∨ c = TI ∨ c = TO ∨ c = i1 ∨ c = i2 := by simpa using hc
    rcases e' with q | q | q | q | q
    · rw [q]; exact ⟨_, hz, fun v q => nomatch q⟩
    · rw [q]; exact ⟨_, hTI, fun v q => nomatch q⟩
    · rw [q]; exact ⟨_, hTO, fun v q => nomatch q⟩
    · rw [q]; exact ⟨o1, e1, d1⟩
    · rw [q]; exact ⟨o2, e2, d2⟩
  keep := fun i h h' st k => by
    obtain ⟨hz, hTI, ⟨x, y, hTO⟩, h1, h2⟩ := st
    exact ⟨k z (by simp) _ hz, k TI (by simp) _ hTI, ⟨x, y, k TO (by simp) _ hTO⟩, h1.at fun o q => k i1 (by simp) o q, h2.at fun o q => k i2 (by simp) o q⟩
  item := by
    intro X hP hw hK hc i pins s σ H E I hf st hg
    subst hP hw hK
    obtain ⟨hz, hTI, ⟨x0, y0, hTO⟩, h1, h2⟩ := st
    obtain ⟨xs, ys, x, y, hqx, hqy, hx, hy⟩ := hg
    obtain ⟨its, rv, p⟩ := sqk_its I hqx
    obtain ⟨its2, rv2, p2⟩ := sqk_its I hqy
    obtain ⟨u, hu, ru⟩ := rv.get hx
    obtain ⟨u2, hu2, ru2⟩ := rv2.get hy
    have hzl : z < s.heap.objs.size := Heap.lt_size hz
    refine sz_nextItem D hz hTI hTO (p h1) (p2 h2) (x := u) (y := u2) (by simpa using hu) (by simpa using hu2) fun h' z' TO' h1' h2' hT hsz hk => ?_
    refine ⟨_, rfl, sz_go (s := { s with heap := h' }) z' fun h'' z'' sb => ?_⟩
    have hT2 : h''.get? s.heap.objs.size = some { cls := .type "tuple", data := .seq #[u, u2] } := (sb.2 _ (Nat.ne_of_gt hzl)).trans hT
    have new : ObjOk X.prog X.w (upd H s.heap.objs.size (.tup [x, y])) h'' s.heap.objs.size (.tup [x, y]) :=
      ⟨by show 2 ≤ sizeLine; decide, [u, u2], .cons ru (.cons ru2 .nil), ⟨_, hT2, rfl, _, rfl⟩⟩
    have I1 : Inv X pins σ (upd H s.heap.objs.size (.tup [x, y])) { s with heap := h'' } :=
      I.turnedNew (t' := s.toks) (ch := [z, TI, TO, i1, i2]) (fun c o hb q => (sb.2 c (fun q' => hb (by simp [q']))).trans (hk c o (fun q' => hb (by simp [q'])) (fun q' => hb (by simp [q'])) (fun q' => hb (by simp [q'])) (fun q' => hb (by simp [q'])) q)) hf (Nat.le_refl _) new
    refine ⟨.ref s.heap.objs.size, _, I1, rfl, ⟨_, x, y, rfl, I.hok.fresh (Nat.le_refl _), rfl, fun l hl => by rw [sqk_inj I hl hqx]; exact hx, fun l hl => by rw [sqk_inj I hl hqy]; exact hy⟩, ⟨z'', ?_, ⟨u, u2, ?_⟩, ?_, ?_⟩, fun c hcm => ?_⟩
    · exact (sb.2 _ D.TIz).trans (hk _ _ D.TIz D.TITO D.TIi1 D.TIi2 hTI)
    · exact (sb.2 _ D.TOz).trans TO'
    · exact h1'.ki.at fun o q => (sb.2 _ D.i1z).trans q
    · exact h2'.ki.at fun o q => (sb.2 _ D.i2z).trans q
    · have hlt : c < s.heap.objs.size := by
        have e' : c = z ∨ c = TI ∨ c = TO ∨ c = i1 ∨ c = i2 := by simpa using hcm
        rcases e' with q | q | q | q | q
        · rw [q]; exact hzl
        · rw [q]; exact Heap.lt_size hTI
        · rw [q]; exact Heap.lt_size hTO
        · rw [q]; obtain ⟨_, e1, _⟩ := h1.get; exact Heap.lt_size e1
        · rw [q]; obtain ⟨_, e2, _⟩ := h2.get; exact Heap.lt_size e2
      rw [upd_ne (Nat.ne_of_lt hlt)]
      exact (hf c hcm).1
  done := by
    intro X hP hw hK hc i pins s σ H E I hf st hg
    subst hP hw hK
    obtain ⟨hz, hTI, ⟨x0, y0, hTO⟩, h1, h2⟩ := st
    obtain ⟨xs, ys, hqx, hqy, he1, he2⟩ := hg
    obtain ⟨its, rv, p⟩ := sqk_its I hqx
    obtain ⟨its2, rv2, p2⟩ := sqk_its I hqy
    have l1 := rv.length
    have l2 := rv2.length
    exact sz_nextEnd (I.ok.hd hc) D hz hTI hTO (p h1) (p2 h2) (by simp; omega) (by simp; omega) fun h' hk => ⟨rfl, I.turnedL (t' := s.toks) (ch := [z, TI, TO, i1, i2]) (fun c o hb q => hk c o (fun q' => hb (by simp [q'])) (fun q' => hb (by simp [q'])) (fun q' => hb (by simp [q'])) (fun q' => hb (by simp [q'])) q) hf⟩
  self := fun A i s Q E st h => sz_iter st.1 h
theorem callWith_typeKw {M : Model} {A : Around} {E : Value → Shared → Prop} {s : Shared} {pos : Pos} {T : String} {args : List (Bool × Sem Value)} {keywords : List (Option Str × Sem Value)} {Q : Value → Shared → Prop}
    (hplain : args.any (·.1) = false) (hkw : keywords.any (·.1.isNone) = false)
    (h : wpAny M A (evalArgs (.type T) true args keywords) (fun a s₁ => wpAny M A (call (.type T) a.pos a.kw) Q E s₁) E s) : wpAny M A (callWith pos (.type T) [] args keywords) Q E s := by
  unfold callWith
  refine wpAny_bind (wpAny_holding (wpAny_mono h (fun a s₁ h₁ => wpAny_bind (wpAny_standAt ?_)) fun _ _ x => x))
  simp only [hplain, hkw, Bool.or_false]
  refine wpAny_bind (wpAny_pure ?_)
  exact wpAny_bind (wpAny_mono h₁ (fun r s₂ hr => wpAny_bind (wpAny_holding (wpAny_point (wpAny_pure hr)))) fun _ _ x => x)
def iZipS (K : PySem.W.Frag) (ta : TA) : TI := fun σ H R => ta σ H fun vs H1 => ∃ (k1 k2 : Bool) (a b : Addr) (xs ys : List V), vs = [.ref a, .ref b] ∧ SqK K H1 k1 a xs ∧ SqK K H1 k2 b ys ∧ R (ItS K k1 k2 a b) H1
theorem pi_zipS {X : Cx} {e e2 e3 : Expr} {ta : TA} {p pos tpos kp : Pos} {elts : List Expr} {kk : Nat} (hg : Gl X "zip") (hm : X.mg "zip" = none) (ha : PA X [e, e2] ta) (h3 : PE X e3 (tC (.bl true)))
    (hs : starEach [e, e2] X.env = (false, eval e X.env) :: starEach [e2] X.env := by rfl) (hpl : (backTo pos (starEach [e2] X.env)).any (·.1) = false := by rfl) :
    PI X (.Tuple elts kk tpos) (.Call (.Name "zip" p) [e, e2] [⟨some "strict", e3, kp⟩] pos) (iZipS X.K ta) := by
  refine ⟨fun pins s σ H R I h => ?_⟩
  refine wpAny_Call_Name_kw (ld_blt I hg hm PyProof.Rows.boot_zip ?_)
  have hpl2 : (backTo pos (starEach [e, e2] X.env)).any (·.1) = false := by
    rw [hs]
    show (false || (backTo pos (starEach [e2] X.env)).any (·.1)) = false
    rw [hpl]
    rfl
  refine callWith_typeKw hpl2 rfl ?_
  have hx := ha.run pos pins s σ H _ I h
  rw [hs] at hx ⊢
  refine evalArgs_kwB rfl (thn hx fun us s1 ⟨vs, H1, I1, r1, q1⟩ => ?_)
  refine kws_cons (thn (h3.run pins s1 σ H1 (fun v H2 => v = .bl true ∧ H2 = H1) I1 ⟨rfl, rfl⟩) fun u3 s2 q3 => kws_nil ?_)
  obtain ⟨v3, H2, I2, r3, ev, eh⟩ := q3
  subst ev
  subst eh
  cases (show u3 = Value.bool true from r3)
  obtain ⟨k1, k2, a, b, xs, ys, ex, hqx, hqy, q⟩ := q1
  subst ex
  cases r1 with
  | cons r rr =>
    cases rr with
    | cons r' rr =>
      cases rr
      cases r
      cases r'
      have fresh5 : ∀ c, c ∈ [s2.heap.objs.size + 4, s2.heap.objs.size + 2, s2.heap.objs.size + 3, s2.heap.objs.size, s2.heap.objs.size + 1] → FpOk X pins H2 c := fun c hcm => by
        have e' : c = s2.heap.objs.size + 4 ∨ c = s2.heap.objs.size + 2 ∨ c = s2.heap.objs.size + 3 ∨ c = s2.heap.objs.size ∨ c = s2.heap.objs.size + 1 := by simpa using hcm
        have hle : s2.heap.objs.size ≤ c := by omega
        exact I2.fpOk hle (I2.hok.fresh hle)
      cases k1 with
      | true =>
        cases k2 with
        | true =>
          obtain ⟨i1, v1, p1, _⟩ := I2.tuple hqx
          obtain ⟨o1, ho1, _⟩ := id p1
          have l1 := Heap.lt_size ho1
          have B1 := begins_tuple a i1.toArray
          have w1 : s2.heap.IsTuple a i1.toArray := p1
          obtain ⟨i2, v2, p2, _⟩ := I2.tuple hqy
          obtain ⟨o2, ho2, _⟩ := id p2
          have l2 := Heap.lt_size ho2
          have B2 := begins_tuple b i2.toArray
          have w2 : s2.heap.IsTuple b i2.toArray := p2
          refine zipS_begins B1 B2 w1 w2 fun h' hz hTI hTO g1 g2 hsz hk => sz_iter hz ?_
          exact ⟨s2.heap.objs.size + 4, [s2.heap.objs.size + 4, s2.heap.objs.size + 2, s2.heap.objs.size + 3, s2.heap.objs.size, s2.heap.objs.size + 1], _, _, H2, rfl, I2.kept (t' := s2.toks) hk, turn_zipS (k1 := true) (k2 := true) (PySem.W.ktu_apart s2.heap.objs.size a b l1 l2), ⟨hz, hTI, ⟨_, _, hTO⟩, (show h'.IsTupleIter s2.heap.objs.size a 0 from ⟨_, g1, rfl, rfl⟩), (show h'.IsTupleIter (s2.heap.objs.size + 1) b 0 from ⟨_, g2, rfl, rfl⟩)⟩, fresh5, q⟩
        | false =>
          obtain ⟨i1, v1, p1, _⟩ := I2.tuple hqx
          obtain ⟨o1, ho1, _⟩ := id p1
          have l1 := Heap.lt_size ho1
          have B1 := begins_tuple a i1.toArray
          have w1 : s2.heap.IsTuple a i1.toArray := p1
          obtain ⟨i2, v2, p2, _⟩ := I2.list hqy
          have l2 := p2.lt
          have B2 := begins_list b i2.toArray
          have w2 := p2.isList
          refine zipS_begins B1 B2 w1 w2 fun h' hz hTI hTO g1 g2 hsz hk => sz_iter hz ?_
          exact ⟨s2.heap.objs.size + 4, [s2.heap.objs.size + 4, s2.heap.objs.size + 2, s2.heap.objs.size + 3, s2.heap.objs.size, s2.heap.objs.size + 1], _, _, H2, rfl, I2.kept (t' := s2.toks) hk, turn_zipS (k1 := true) (k2 := false) (PySem.W.ktu_apart s2.heap.objs.size a b l1 l2), ⟨hz, hTI, ⟨_, _, hTO⟩, (show h'.IsTupleIter s2.heap.objs.size a 0 from ⟨_, g1, rfl, rfl⟩), (show h'.IsListIter (s2.heap.objs.size + 1) b 0 from ⟨_, g2, rfl, rfl⟩)⟩, fresh5, q⟩
      | false =>
        cases k2 with
        | true =>
          obtain ⟨i1, v1, p1, _⟩ := I2.list hqx
          have l1 := p1.lt
          have B1 := begins_list a i1.toArray
          have w1 := p1.isList
          obtain ⟨i2, v2, p2, _⟩ := I2.tuple hqy
          obtain ⟨o2, ho2, _⟩ := id p2
          have l2 := Heap.lt_size ho2
          have B2 := begins_tuple b i2.toArray
          have w2 : s2.heap.IsTuple b i2.toArray := p2
          refine zipS_begins B1 B2 w1 w2 fun h' hz hTI hTO g1 g2 hsz hk => sz_iter hz ?_
          exact ⟨s2.heap.objs.size + 4, [s2.heap.objs.size + 4, s2.heap.objs.size + 2, s2.heap.objs.size + 3, s2.heap.objs.size, s2.heap.objs.size + 1], _, _, H2, rfl, I2.kept (t' := s2.toks) hk, turn_zipS (k1 := false) (k2 := true) (PySem.W.ktu_apart s2.heap.objs.size a b l1 l2), ⟨hz, hTI, ⟨_, _, hTO⟩, (show h'.IsListIter s2.heap.objs.size a 0 from ⟨_, g1, rfl, rfl⟩), (show h'.IsTupleIter (s2.heap.objs.size + 1) b 0 from ⟨_, g2, rfl, rfl⟩)⟩, fresh5, q⟩
        | false =>
          obtain ⟨i1, v1, p1, _⟩ := I2.list hqx
          have l1 := p1.lt
          have B1 := begins_list a i1.toArray
          have w1 := p1.isList
          obtain ⟨i2, v2, p2, _⟩ := I2.list hqy
          have l2 := p2.lt
          have B2 := begins_list b i2.toArray
          have w2 := p2.isList
          refine zipS_begins B1 B2 w1 w2 fun h' hz hTI hTO g1 g2 hsz hk => sz_iter hz ?_
          exact ⟨s2.heap.objs.size + 4, [s2.heap.objs.size + 4, s2.heap.objs.size + 2, s2.heap.objs.size + 3, s2.heap.objs.size, s2.heap.objs.size + 1], _, _, H2, rfl, I2.kept (t' := s2.toks) hk, turn_zipS (k1 := false) (k2 := false) (PySem.W.ktu_apart s2.heap.objs.size a b l1 l2), ⟨hz, hTI, ⟨_, _, hTO⟩, (show h'.IsListIter s2.heap.objs.size a 0 from ⟨_, g1, rfl, rfl⟩), (show h'.IsListIter (s2.heap.objs.size + 1) b 0 from ⟨_, g2, rfl, rfl⟩)⟩, fresh5, q⟩
/-- a walk over a strict zip -/
theorem walk_zipS {K : PySem.W.Frag} {k1 k2 : Bool} {a b : Addr} {xs ys : List V} (hl : xs.length = ys.length) : Walk (ItS K k1 k2 a b) xs.length (fun H => SqK K H k1 a xs ∧ SqK K H k2 b ys) (YPair (fun i => xs[i]?) (fun i => ys[i]?)) := by
  refine ⟨fun i _ hi q => ⟨xs, ys, xs[i], ys[i], q.1, q.2, by simp [hi], by simp [← hl, hi]⟩, fun _ q => ⟨xs, ys, q.1, q.2, Nat.le_refl _, by omega⟩, fun i H v H' _ q y => ?_⟩
  obtain ⟨T, x, y, h1, h2, h3, h4, h5⟩ := y
  exact ⟨T, x, y, h1, h2, h3, h4 xs q.1, h5 ys q.2⟩
end Bk

set_option Elab.async false
set_option linter.all false
set_option maxRecDepth 100000
set_option maxHeartbeats 4000000
/-! Bk21: trees by rows. -/
namespace Bk
open PySem PySem.Spec PyProof.Rows L2
abbrev Tr := List (Str × List Int)
def rowD (r : Str × List Int) : D := .tup [.str r.1, .tup (r.2.map D.int)]
def treeD (t : Tr) : D := .tup (t.map rowD)
def mkOf (w : Wd) (s : Str) : Option (Nat × Mk) := (tabFrom 0 w).find? fun e => decide (e.2.1 = s)
def dueOf (w : Wd) (e : Nat × Mk) : List Int := e.2.2.map fun s => kno w s
def standsAt (ks ns due : List Int) : Bool := decide (ns.length = due.length) && ((ns.all fun n => decide (0 ≤ n ∧ n < (ks.length : Nat))) && (ns.zip due).all fun p => decide (ks[p.1.toNat]? = some p.2))
def stands (w : Wd) (ks : List Int) (r : Str × List Int) : Bool := match mkOf w r.1 with
  | none => false
  | some e => standsAt ks r.2 (dueOf w e)
def kindAt (w : Wd) (s : Str) : Int := match mkOf w s with
  | none => 0
  | some e => (e.1 : Nat)
/-- the row that can't stand, if any -/
def dueTr (w : Wd) : List Int → Tr → Option Nat
  | ks, [] => if ks = [] then some 0 else none
  | ks, r :: t => if stands w ks r = true then dueTr w (ks ++ [kindAt w r.1]) t else some ks.length
theorem nodup_sub2 {α : Type} [DecidableEq α] : ∀ (l m : List α), l.Nodup → (∀ x ∈ l, x ∈ m) → l.length ≤ m.length
  | [], _, _, _ => Nat.zero_le _
  | x :: l, m, h, hs => by
    have hn := List.nodup_cons.1 h
    have hx := hs x List.mem_cons_self
    have z := nodup_sub2 l (m.erase x) hn.2 fun y hy => (List.mem_erase_of_ne (fun e => hn.1 (by rw [← e]; exact hy))).2 (hs y (List.mem_cons_of_mem _ hy))
    rw [List.length_erase_of_mem hx] at z
    have : 0 < m.length := List.length_pos_of_mem hx
    rw [List.length_cons]
    omega
theorem TabOk.none {w : Wd} {H : Hp} {kvs : List (L2.Key × V)} {L : List (Nat × Mk)} {s : Str} (h : TabOk w H kvs L) (hn : (L.map fun e => e.2.1).Nodup) (hs : s ∉ L.map fun e => e.2.1) : valV kvs (.inr s) = none := by
  refine Classical.byContradiction fun z => ?_
  have key : ∀ t v, valV kvs (.inr t) = some v → (Sum.inr t : L2.Key) ∈ kvs.map Prod.fst := fun t v e => by
    unfold valV at e
    rw [Option.map_eq_some_iff] at e
    obtain ⟨kv, e1, _⟩ := e
    have e2 := List.find?_some e1
    have e3 := List.mem_of_find?_eq_some e1
    exact List.mem_map.2 ⟨kv, e3, of_decide_eq_true e2⟩
  have hz : ∃ v, valV kvs (.inr s) = some v := by
    cases e : valV kvs (.inr s) with
    | none => exact absurd e z
    | some v => exact ⟨v, rfl⟩
  obtain ⟨v, hv⟩ := hz
  have a := nodup_sub2 ((s :: L.map fun e => e.2.1).map Sum.inr) (kvs.map Prod.fst) (by
    have nd : (s :: L.map fun e => e.2.1).Nodup := List.nodup_cons.2 ⟨hs, hn⟩
    exact List.Pairwise.map (R := (· ≠ ·)) (S := (· ≠ ·)) Sum.inr (fun x y hxy e => hxy (Sum.inr.inj e)) nd) fun x hx => by
      obtain ⟨t, ht, rfl⟩ := List.mem_map.1 hx
      rcases List.mem_cons.1 ht with rfl | ht
      · exact key _ _ hv
      · obtain ⟨e, he, rfl⟩ := List.mem_map.1 ht
        obtain ⟨p, t, q, _⟩ := h.2 e he
        exact key _ _ q
  have b := h.1
  simp only [List.length_map, List.length_cons] at a
  omega
theorem mkOf_some {w : Wd} {s : Str} {e : Nat × Mk} (h : mkOf w s = some e) : e ∈ tabFrom 0 w ∧ e.2.1 = s := ⟨List.mem_of_find?_eq_some h, of_decide_eq_true (List.find?_some (p := fun e : Nat × Mk => decide (e.2.1 = s)) h)⟩
theorem mkOf_none {w : Wd} {s : Str} (h : mkOf w s = none) : s ∉ (tabFrom 0 w).map fun e => e.2.1 := fun z => by
  obtain ⟨e, he, rfl⟩ := List.mem_map.1 z
  exact List.find?_eq_none.1 h e he (decide_eq_true rfl)
theorem dueOf_vals (w : Wd) (e : Nat × Mk) : (e.2.2.map fun s => V.int (kno w s)) = (dueOf w e).map V.int := map_kno w e.2.2
/-- a tree within bounds -/
structure TrB (t : Tr) : Prop where
  many : t.length ≤ 500
  row : ∀ r ∈ t, TextOk r.1 ∧ r.2.length ≤ 500
def spStands : Sp := fun vs H Q _ => ∃ (w : Wd) (d kl pt : Addr) (kvs : List (L2.Key × V)) (ks ns : List Int) (s : Str), vs = [.ref d, .ref kl, .str s, .ref pt] ∧ H d = some (.dK kvs) ∧ TabOk w H kvs (tabFrom 0 w) ∧ TabPre w ∧
  H kl = some (.lst (ks.map V.int)) ∧ H pt = some (.tup (ns.map V.int)) ∧ ns.length ≤ 500 ∧ ks.length ≤ 500 ∧ ∀ H', Ex H H' → Q (.bl (stands w ks (s, ns))) H'
def spLookTree (C : Addr) : Sp := fun vs H Q E => ∃ (w : Wd) (t : Tr) (v u : V), vs = [v, u] ∧ Rep H (woodD w) v ∧ Rep H (treeD t) u ∧ TabPre w ∧ TrB t ∧ (dueTr w [] t = none → ∀ H', Ex H H' → Q (.bl true) H') ∧
  ∀ n, dueTr w [] t = some n → ∀ d H', Ex H H' → H' d = some (.xd [("at", .int (n : Nat))]) → E (.ref C) (some d) H'
/-- the i-th row of a tree -/
theorem tree_at {H : Hp} {t : Tr} {xs : List V} {i : Nat} {x : V} (h : Reps H (t.map rowD) xs) (hx : xs[i]? = some x) : ∃ r a c, t[i]? = some r ∧ x = .ref a ∧ H a = some (.tup [.str r.1, .ref c]) ∧ H c = some (.tup (r.2.map V.int)) := by
  obtain ⟨d, hd, r⟩ := h.get hx
  rw [List.getElem?_map] at hd
  cases e : t[i]? with
  | none => rw [e] at hd; cases hd
  | some m =>
    rw [e] at hd
    cases hd
    obtain ⟨a, y, z, rfl, ha, ry, rz⟩ := Rep.twoI r
    cases ry.strI
    obtain ⟨c, ys, rfl, hc, rs⟩ := rz.tupI
    refine ⟨m, a, c, rfl, rfl, ha, ?_⟩
    have : ys = m.2.map V.int := by
      clear hc
      generalize m.2 = l at rs
      induction l generalizing ys with
      | nil => simpa only [List.map, Reps] using rs
      | cons n l ih =>
        simp only [List.map, Reps, Rep] at rs
        obtain ⟨_, r, rfl, rfl, rs⟩ := rs
        rw [ih _ rs]
        rfl
    rw [hc, this]
/-! told and due -/
def toldT : Option Nat → D
  | none => .tup [.str "let by"]
  | some n => .tup [.str "refused", .int (n : Nat)]
/-- what both tell: a tuple of a word, or of a word and a number -/
def ToldT (H : Hp) (o : Option Nat) (p : Addr) : Prop := match o with
  | none => H p = some (.tup [.str "let by"])
  | some n => H p = some (.tup [.str "refused", .int (n : Nat)])
def spToldT : Sp := fun vs H Q _ => ∃ (w : Wd) (t : Tr) (v u : V), vs = [v, u] ∧ Rep H (woodD w) v ∧ Rep H (treeD t) u ∧ WoodOk w ∧ TrB t ∧ ∀ p H', Ex H H' → ToldT H' (dueTr w [] t) p → Q (.ref p) H'
theorem ToldT.ex {H H' : Hp} {o : Option Nat} {p : Addr} (e : Ex H H') (h : ToldT H o p) : ToldT H' o p := by
  cases o with
  | none => exact e _ _ h
  | some n => exact e _ _ h
def toldPy : Option Nat → List PyData
  | none => [.str "let by"]
  | some n => [.str "refused", .int (n : Nat)]
theorem told_dp {K : PySem.W.Frag} {H : Hp} {o : Option Nat} {p : Addr} (h : ToldT H o p) : ∃ ds, Dp K H (.ref p) (.tuple ds) ∧ SeqAt.shaped (.tuple ds) = true ∧ ds = toldPy o := by
  cases o with
  | none => exact ⟨_, .tup (sqT h) (.cons (.str _) .nil), by decide +kernel, rfl⟩
  | some n => exact ⟨_, .tup (sqT h) (.cons (.str _) (.cons (.int _) .nil)), by
      show (PyData.canLayAll0 [.str "refused", .int (n : Nat)] && decide (PyData.depthAll [.str "refused", .int (n : Nat)] + 1 ≤ 64)) = true
      have a : PyData.canLayAll0 [.str "refused"] = true := by decide +kernel
      have b : (PyData.str "refused").canLay0 = true := by decide +kernel
      have c : PyData.canLayAll0 [.str "refused", .int (n : Nat)] = ((PyData.str "refused").canLay0 && (true && true)) := rfl
      rw [c, b]
      rfl, rfl⟩
theorem g_neTold {K : PySem.W.Frag} {H : Hp} {Q : VK} {o : Option Nat} {p q : Addr} (h1 : ToldT H o p) (h2 : ToldT H o q) (k : Q (.bl false) H) : rNeD K (.ref p) (.ref q) H Q := by
  obtain ⟨ds, a1, a2, a3⟩ := told_dp (K := K) h1
  obtain ⟨es, b1, b2, b3⟩ := told_dp (K := K) h2
  refine ⟨_, _, a1, b1, a2, b2, ?_⟩
  have e : PyData.eqv (.tuple ds) (.tuple es) = true := by
    have ee : es = ds := b3.trans a3.symm
    rw [ee]
    have l : (PyData.tuple ds).canLay0 = true := by
      have z : (PyData.canLayAll0 ds && decide (PyData.depthAll ds + 1 ≤ 64)) = true := a2
      exact (Bool.and_eq_true_iff.1 z).1
    exact PySem.SeqAt.eqv_refl _ l
  rw [e]
  exact k
theorem walk_zipT {K : PySem.W.Frag} {a b : Addr} {xs ys : List V} (hl : xs.length = ys.length) : Walk (RZ.ItzT K a b) xs.length (fun H => SqT K H a xs ∧ SqT K H b ys) (YPair (fun i => xs[i]?) (fun i => ys[i]?)) := by
  refine ⟨fun i _ hi q => ⟨xs, ys, xs[i], ys[i], q.1, q.2, by simp [hi], by simp [← hl, hi]⟩, fun _ q => ⟨xs, ys, q.1, q.2, .inl (Nat.le_refl _)⟩, fun i H v H' _ q y => ?_⟩
  obtain ⟨T, x, y, h1, h2, h3, h4, h5⟩ := y
  exact ⟨T, x, y, h1, h2, h3, h4 xs q.1, h5 ys q.2⟩
theorem g_eqNil {K : PySem.W.Frag} {H : Hp} {Q : VK} {a b : Addr} {xs : List V} (ha : H a = some (.lst xs)) (hb : H b = some (.lst [])) (h : ∀ x ∈ xs, DpOk K H x 60) (q : Q (.bl xs.isEmpty) H) : rEqD K (.ref a) (.ref b) H Q := by
  obtain ⟨ds, h1, h2, h3, h4⟩ := dpok_all h
  refine ⟨.list ds, .list [], .lst (sqL ha) h1, .lst (sqL hb) .nil, ?_, rfl, ?_⟩
  · show (PyData.canLayAll0 ds && decide (PyData.depthAll ds + 1 ≤ 64)) = true
    rw [h2, decide_eq_true (by omega)]
    rfl
  · have e : PyData.eqv (.list ds) (.list []) = xs.isEmpty := by
      show PyData.eqvAll ds [] = xs.isEmpty
      cases ds with
      | nil =>
        have : xs = [] := List.eq_nil_of_length_eq_zero h4.symm
        subst this
        rfl
      | cons d ds =>
        cases xs with
        | nil => cases h4
        | cons x xs => rfl
    rw [e]
    exact q
theorem dpok_int {K : PySem.W.Frag} {H : Hp} {n : Int} {k : Nat} : DpOk K H (.int n) k := ⟨.int n, .int n, rfl, Nat.zero_le _⟩
theorem dpok_ints {K : PySem.W.Frag} {H : Hp} {ns : List Int} {k : Nat} : ∀ x ∈ ns.map V.int, DpOk K H x k := fun x hx => by
  obtain ⟨n, _, rfl⟩ := List.mem_map.1 hx
  exact dpok_int
theorem due_dp {K : PySem.W.Frag} {w : Wd} {H : Hp} {e : Nat × Mk} {x : V} (ok : WoodOk w) (he : e ∈ tabFrom 0 w) (h : DueAt w H e x) : DpOk K H x 60 := by
  obtain ⟨p, t, rfl, hp, ht⟩ := h
  rw [dueOf_vals] at ht
  refine dpok_tup (k := 59) hp fun y hy => ?_
  simp only [List.mem_cons, List.not_mem_nil, or_false] at hy
  rcases hy with rfl | rfl | rfl
  · have hm : e.2.1 ∈ mkNames w := by
      rw [← tab_names w 0]
      exact List.mem_map.2 ⟨e, he, rfl⟩
    exact dpok_str (isName_text (ok.low _ hm)).2
  · exact dpok_int
  · exact dpok_tup (k := 58) ht dpok_ints
def okPair (ks : List Int) (p : Int × Int) : Bool := decide (0 ≤ p.1 ∧ p.1 < (ks.length : Nat)) && decide (ks[p.1.toNat]? = some p.2)
theorem standsAt_zip {ks : List Int} : ∀ {ns due : List Int}, ns.length = due.length → standsAt ks ns due = (ns.zip due).all (okPair ks) := by
  intro ns due h
  unfold standsAt
  rw [decide_eq_true h, Bool.true_and]
  induction ns generalizing due with
  | nil =>
    cases due with
    | nil => rfl
    | cons _ _ => cases h
  | cons n ns ih =>
    cases due with
    | nil => cases h
    | cons d due =>
      have z := ih (due := due) (Nat.succ.inj h)
      simp only [List.all_cons, List.zip_cons_cons]
      rw [← z]
      unfold okPair
      generalize decide (0 ≤ n ∧ n < (ks.length : Nat)) = b1
      generalize (decide (ks[n.toNat]? = some d)) = b2
      generalize (ns.all fun n => decide (0 ≤ n ∧ n < (ks.length : Nat))) = b3
      generalize ((ns.zip due).all fun p => decide (ks[p.1.toNat]? = some p.2)) = b4
      cases b1 <;> cases b2 <;> cases b3 <;> cases b4 <;> rfl
end Bk

set_option Elab.async false
set_option linter.all false
set_option maxRecDepth 100000
set_option maxHeartbeats 4000000
/-! Bk22: trees drawn. -/
namespace Bk
open PySem PySem.Spec PyProof.Rows L2
theorem inV_ints (n : Int) : ∀ ks : List Int, inV (.int n) (ks.map V.int) = decide (n ∈ ks)
  | [] => rfl
  | k :: ks => by
    show (eqV (.int k) (.int n) || inV (.int n) (ks.map V.int)) = _
    rw [inV_ints n ks]
    show ((k == n) || decide (n ∈ ks)) = decide (n ∈ k :: ks)
    by_cases c : k = n
    · subst c
      simp
    · have e : (k == n) = false := by simpa using c
      rw [e, Bool.false_or]
      have : n ≠ k := fun z => c z.symm
      simp [this]
theorem flat_ints : ∀ ks : List Int, (ks.map V.int).all flatV = true
  | [] => rfl
  | k :: ks => by
    rw [List.map_cons, List.all_cons, flat_ints ks]
    rfl
theorem g_inLin {K : PySem.W.Frag} {H : Hp} {Q : VK} {l : Addr} {n : Int} {ks : List Int} (hl : H l = some (.lst (ks.map V.int))) (h : Q (.bl (!decide (n ∈ ks))) H) : uIn K true (.int n) (.ref l) H Q := ⟨_, .inl (sqL hl), rfl, flat_ints ks, by rw [inV_ints]; exact h⟩
def goTr (w : Wd) : List Int → Tr → Bool
  | _, [] => true
  | ks, r :: t => stands w ks r && goTr w (ks ++ [kindAt w r.1]) t
def kindsT (w : Wd) (t : Tr) : List Int := t.map fun r => kindAt w r.1
theorem goTr_app {w : Wd} {r : Str × List Int} : ∀ {t : Tr} {ks : List Int}, goTr w ks (t ++ [r]) = (goTr w ks t && stands w (ks ++ kindsT w t) r)
  | [], ks => by
    show (stands w ks r && true) = (true && stands w (ks ++ []) r)
    rw [List.append_nil, Bool.and_true, Bool.true_and]
  | q :: t, ks => by
    show (stands w ks q && goTr w (ks ++ [kindAt w q.1]) (t ++ [r])) = ((stands w ks q && goTr w (ks ++ [kindAt w q.1]) t) && stands w (ks ++ kindsT w (q :: t)) r)
    rw [goTr_app, Bool.and_assoc]
    congr 3
    show _ = ks ++ (kindAt w q.1 :: kindsT w t)
    rw [List.append_assoc]
    rfl
theorem goTr_due {w : Wd} : ∀ {t : Tr} {ks : List Int}, goTr w ks t = true → dueTr w ks t = if ks = [] ∧ t = [] then some 0 else none
  | [], ks, _ => by
    unfold dueTr
    by_cases c : ks = []
    · rw [if_pos c, if_pos ⟨c, rfl⟩]
    · rw [if_neg c, if_neg fun z => c z.1]
  | r :: t, ks, h => by
    have h2 := Bool.and_eq_true_iff.1 (show (stands w ks r && goTr w (ks ++ [kindAt w r.1]) t) = true from h)
    unfold dueTr
    rw [if_pos h2.1, goTr_due h2.2, if_neg (fun z => by simp at z), if_neg (fun z => by cases z.2)]
theorem mkOf_mem {w : Wd} {e : Nat × Mk} (hn : ((tabFrom 0 w).map fun e => e.2.1).Nodup) (he : e ∈ tabFrom 0 w) : mkOf w e.2.1 = some e := by
  cases c : mkOf w e.2.1 with
  | none => exact absurd (List.mem_map.2 ⟨e, he, rfl⟩) (mkOf_none c)
  | some f =>
    obtain ⟨h1, h2⟩ := mkOf_some c
    obtain ⟨i, hi⟩ := List.mem_iff_getElem?.1 he
    obtain ⟨j, hj⟩ := List.mem_iff_getElem?.1 h1
    obtain ⟨i1, i2⟩ := List.getElem?_eq_some_iff.1 hi
    obtain ⟨j1, j2⟩ := List.getElem?_eq_some_iff.1 hj
    have z := List.pairwise_iff_getElem.1 hn
    by_cases e1 : i = j
    · subst e1
      rw [hi] at hj
      cases hj
      rfl
    · exfalso
      rcases Nat.lt_or_gt_of_ne e1 with l | l
      · refine z i j (by rw [List.length_map]; exact i1) (by rw [List.length_map]; exact j1) l ?_
        rw [List.getElem_map, List.getElem_map, i2, j2, h2]
      · refine z j i (by rw [List.length_map]; exact j1) (by rw [List.length_map]; exact i1) l ?_
        rw [List.getElem_map, List.getElem_map, i2, j2, h2]
theorem stands_of {w : Wd} {e : Nat × Mk} {ks ns : List Int} (hn : ((tabFrom 0 w).map fun e => e.2.1).Nodup) (he : e ∈ tabFrom 0 w) (hl : ns.length = (dueOf w e).length) (h : ∀ (j : Nat) (n d : Int), ns[j]? = some n → (dueOf w e)[j]? = some d → 0 ≤ n ∧ n < (ks.length : Nat) ∧ ks[n.toNat]? = some d) : stands w ks (e.2.1, ns) = true := by
  unfold stands
  rw [mkOf_mem hn he]
  show standsAt ks ns (dueOf w e) = true
  rw [standsAt_zip hl, List.all_eq_true]
  rintro ⟨n, d⟩ hz
  obtain ⟨j, hj⟩ := List.mem_iff_getElem?.1 hz
  obtain ⟨h1, h2⟩ := List.getElem?_zip_eq_some.1 hj
  obtain ⟨a, b, c⟩ := h j n d h1 h2
  unfold okPair
  rw [decide_eq_true ⟨a, b⟩, decide_eq_true c]
  rfl
theorem row_hard (r : Str × List Int) : (rowD r).hard = true := by
  show D.hards [.str r.1, .tup (r.2.map D.int)] = true
  have := ints_hard r.2
  simp only [D.hards, D.hard, this, Bool.and_self]
theorem rows_hard : ∀ t : Tr, D.hards (t.map rowD) = true
  | [] => rfl
  | r :: t => by
    show (D.hard (rowD r) && D.hards (t.map rowD)) = true
    rw [row_hard, rows_hard t]
    rfl
theorem tree_hard (t : Tr) : (treeD t).hard = true := by
  show D.hards (t.map rowD) = true
  exact rows_hard t
theorem row_rep {H : Hp} {a c : Addr} {s : Str} {ns : List Int} (ha : H a = some (.tup [.str s, .ref c])) (hc : H c = some (.tup (ns.map V.int))) : Rep H (rowD (s, ns)) (.ref a) := Rep.two ha (Rep.s _) (Rep.ints hc)
structure TreeSt (p R Kd Sz : Addr) (w : Wd) (H H1 : Hp) (t : Tr) (rvs : List V) (szs : List Int) : Prop where
  bx0 : Box H p
  bt : But p H H1
  bx : Box H1 p
  hR : H R = none
  hK : H Kd = none
  hS : H Sz = none
  RK : R ≠ Kd
  RS : R ≠ Sz
  KS : Kd ≠ Sz
  atR : H1 R = some (.lst rvs)
  atK : H1 Kd = some (.lst ((kindsT w t).map V.int))
  atS : H1 Sz = some (.lst (szs.map V.int))
  reps : Reps H1 (t.map rowD) rvs
  len : szs.length = t.length
  go : goTr w [] t = true
  row : ∀ r ∈ t, TextOk r.1 ∧ r.2.length ≤ 2
section
variable {p R Kd Sz : Addr} {w : Wd} {H H1 H2 : Hp} {t : Tr} {rvs : List V} {szs : List Int}
theorem TreeSt.np (s : TreeSt p R Kd Sz w H H1 t rvs szs) {a : Addr} (ha : H a = none) : a ≠ p := fun e => by
  obtain ⟨_, _, _, q⟩ := s.bx0
  rw [← e, ha] at q
  cases q
theorem TreeSt.free (s : TreeSt p R Kd Sz w H H1 t rvs szs) {a : Addr} (ha : H1 a = none) : H a = none := by
  cases e : H a with
  | none => rfl
  | some o =>
    by_cases z : a = p
    · subst z
      obtain ⟨_, _, _, q⟩ := s.bx
      rw [ha] at q
      cases q
    · rw [s.bt _ _ z e] at ha
      cases ha
theorem TreeSt.but (s : TreeSt p R Kd Sz w H H1 t rvs szs) (b : But p H1 H2) (hb : Box H2 p) : TreeSt p R Kd Sz w H H2 t rvs szs :=
  { s with bt := s.bt.trans b, bx := hb, atR := b _ _ (s.np s.hR) s.atR, atK := b _ _ (s.np s.hK) s.atK, atS := b _ _ (s.np s.hS) s.atS, reps := s.reps.tk (s.bx.tk b) (rows_hard t) }
theorem TreeSt.ex (s : TreeSt p R Kd Sz w H H1 t rvs szs) (e : Ex H1 H2) : TreeSt p R Kd Sz w H H2 t rvs szs := s.but (e.but p) (s.bx.ex e)
theorem TreeSt.app (s : TreeSt p R Kd Sz w H H1 t rvs szs) {r : Str × List Int} {v : V} {m : Int} (rv : Rep H1 (rowD r) v) (hs : stands w (kindsT w t) r = true) (ht : TextOk r.1) (hl : r.2.length ≤ 2) :
    TreeSt p R Kd Sz w H (upd (upd (upd H1 R (.lst (rvs ++ [v]))) Kd (.lst ((kindsT w t).map V.int ++ [.int (kindAt w r.1)]))) Sz (.lst (szs.map V.int ++ [.int m]))) (t ++ [r]) (rvs ++ [v]) (szs ++ [m]) := by
  have k1 : Tk H1 (upd H1 R (.lst (rvs ++ [v]))) := ((But.refl R H1).upd).tkl s.atR
  have aK : (upd H1 R (.lst (rvs ++ [v]))) Kd = some (.lst ((kindsT w t).map V.int)) := by rw [upd_ne (Ne.symm s.RK)]; exact s.atK
  have k2 : Tk _ (upd (upd H1 R (.lst (rvs ++ [v]))) Kd (.lst ((kindsT w t).map V.int ++ [.int (kindAt w r.1)]))) := ((But.refl Kd _).upd).tkl aK
  have aS : (upd (upd H1 R (.lst (rvs ++ [v]))) Kd (.lst ((kindsT w t).map V.int ++ [.int (kindAt w r.1)]))) Sz = some (.lst (szs.map V.int)) := by rw [upd_ne (Ne.symm s.KS), upd_ne (Ne.symm s.RS)]; exact s.atS
  have k3 : Tk _ (upd (upd (upd H1 R (.lst (rvs ++ [v]))) Kd (.lst ((kindsT w t).map V.int ++ [.int (kindAt w r.1)]))) Sz (.lst (szs.map V.int ++ [.int m]))) := ((But.refl Sz _).upd).tkl aS
  have k := k1.trans (k2.trans k3)
  refine ⟨s.bx0, ((s.bt.at_new s.hR).at_new s.hK).at_new s.hS, ((s.bx.at_upd (s.np s.hR)).at_upd (s.np s.hK)).at_upd (s.np s.hS), s.hR, s.hK, s.hS, s.RK, s.RS, s.KS, by rw [upd_ne s.RS, upd_ne s.RK, upd_same], ?_, by rw [upd_same, List.map_append]; rfl, ?_, by rw [List.length_append, List.length_append, s.len]; rfl, by rw [goTr_app, s.go, List.nil_append, hs]; rfl, fun q hq => ?_⟩
  · rw [upd_ne s.KS, upd_same]
    unfold kindsT
    rw [List.map_append, List.map_append]
    rfl
  · rw [List.map_append]
    exact (s.reps.tk k (rows_hard t)).append (by simp only [List.map, Reps]; exact ⟨v, [], rfl, rv.tk k (row_hard r), rfl⟩)
  · rcases List.mem_append.1 hq with hq | hq
    · exact s.row q hq
    · rw [List.mem_singleton.1 hq]
      exact ⟨ht, hl⟩
end
/-- a maker whose parts' kinds are there -/
def FitAt (w : Wd) (H : Hp) (ks : List Int) (x : V) : Prop := ∃ e, e ∈ tabFrom 0 w ∧ DueAt w H e x ∧ ∀ d ∈ dueOf w e, d ∈ ks
theorem FitAt.tk {w : Wd} {H H' : Hp} {ks : List Int} {x : V} (t : Tk H H') (h : FitAt w H ks x) : FitAt w H' ks x := by
  obtain ⟨e, a, b, c⟩ := h
  exact ⟨e, a, b.tk t, c⟩
def spTree : Sp := fun vs H Q _ => ∃ (p : Addr) (w : Wd) (v : V) (most : Nat) (size : Int), vs = [.ref p, v, .int (most : Nat), .int size] ∧ Box H p ∧ Rep H (woodD w) v ∧ WoodOk w ∧ 1 ≤ most ∧ most ≤ 200 ∧
  ∀ (t : Tr) (u : V) (H' : Hp), t.length ≤ most → goTr w [] t = true → (∀ r ∈ t, TextOk r.1 ∧ r.2.length ≤ 2) → Rep H' (treeD t) u → But p H H' → Box H' p → Q u H'
theorem cutV_last (xs : List V) (h : xs ≠ []) : 0 < (cutV xs (some (-2)) none).length := by
  have : 0 < xs.length := List.length_pos_iff.2 h
  unfold cutV
  rw [HT.sIx_none, List.length_take, List.length_drop]
  unfold HT.sIx
  simp only
  split <;> omega
theorem tab_inv {e : Nat × Mk} : ∀ {w : Wd} {n : Nat}, e ∈ tabFrom n w → ∃ k ∈ w, e.2 ∈ k.2
  | [], n, h => by cases h
  | k :: w, n, h => by
    rcases List.mem_append.1 (show e ∈ k.2.map (fun m => (n, m)) ++ tabFrom (n + 1) w from h) with h | h
    · obtain ⟨m, hm, rfl⟩ := List.mem_map.1 h
      exact ⟨k, List.mem_cons_self, hm⟩
    · obtain ⟨k', a1, a2⟩ := tab_inv h
      exact ⟨k', List.mem_cons_of_mem _ a1, a2⟩
theorem cutV_map {α : Type} (f : α → V) (ps : List α) (lo hi : Option Int) : ∃ qs : List α, cutV (ps.map f) lo hi = qs.map f ∧ ∀ q ∈ qs, q ∈ ps := by
  refine ⟨((ps.drop (HT.sIx (ps.map f).length 0 lo)).take (HT.sIx (ps.map f).length (ps.map f).length hi - HT.sIx (ps.map f).length 0 lo)), ?_, fun q hq => List.mem_of_mem_drop (List.mem_of_mem_take hq)⟩
  unfold cutV
  rw [List.map_take, List.map_drop]
theorem atI_map {α : Type} (f : α → V) {l : List α} {j : Int} (h0 : 0 ≤ j) (h1 : j < l.length) : ∃ x, l[j.toNat]? = some x ∧ atI (l.map f) j = some (f x) := by
  obtain ⟨y, ey, hy⟩ := atI_ex (l := l.map f) h0 (by rw [List.length_map]; exact h1)
  rw [List.getElem?_map] at hy
  cases e : l[j.toNat]? with
  | none => rw [e] at hy; cases hy
  | some x =>
    rw [e] at hy
    cases hy
    exact ⟨x, rfl, ey⟩
theorem acc_ints {acc : List V} (h : ∀ (j : Nat) (v : V), acc[j]? = some v → ∃ n : Int, v = .int n) : ∃ ns : List Int, acc = ns.map V.int := by
  induction acc with
  | nil => exact ⟨[], rfl⟩
  | cons v acc ih =>
    obtain ⟨n, rfl⟩ := h 0 v rfl
    obtain ⟨ns, e⟩ := ih fun j u hj => h (j + 1) u hj
    exact ⟨n :: ns, by rw [e]; rfl⟩
/-! ### a tree spoilt -/
structure TrN (k : Nat) (t : Tr) : Prop where
  many : t.length ≤ 200 + k
  row : ∀ r ∈ t, TextOk r.1 ∧ r.2.length ≤ 2 + k
theorem TrN.bnd {k : Nat} {t : Tr} (h : TrN k t) (hk : k ≤ 100) : TrB t := ⟨by have := h.many; omega, fun r hr => by
  obtain ⟨a, b⟩ := h.row r hr
  exact ⟨a, by omega⟩⟩
structure RwSt (p R : Addr) (n m : Nat) (c : Addr → Prop) (H H1 : Hp) (rows : List V) : Prop where
  bx0 : Box H p
  bt : But p H H1
  bx : Box H1 p
  at_ : H1 R = some (.lst rows)
  hR : H R = none
  cR : ¬ c R
  fr : ∀ a, c a → H a = none
  ty : ∀ a, c a → ∃ (s : Str) (t : Addr) (ns : List Int), H1 a = some (.lst [.str s, .ref t]) ∧ TextOk s ∧ H1 t = some (.tup (ns.map V.int)) ∧ ns.length ≤ n
  rw : rows.length ≤ m ∧ ∀ x ∈ rows, ∃ b, x = .ref b ∧ c b
section
variable {p R : Addr} {n m : Nat} {c : Addr → Prop} {H H1 H2 : Hp} {rows : List V}
theorem RwSt.np (s : RwSt p R n m c H H1 rows) {a : Addr} (ha : H a = none) : a ≠ p := fun e => by
  obtain ⟨_, _, _, q⟩ := s.bx0
  rw [← e, ha] at q
  cases q
theorem RwSt.free (s : RwSt p R n m c H H1 rows) {a : Addr} (ha : H1 a = none) : H a = none := by
  cases e : H a with
  | none => rfl
  | some o =>
    by_cases z : a = p
    · subst z
      obtain ⟨_, _, _, q⟩ := s.bx
      rw [ha] at q
      cases q
    · rw [s.bt _ _ z e] at ha
      cases ha
theorem RwSt.but (s : RwSt p R n m c H H1 rows) (b : But p H1 H2) (hb : Box H2 p) : RwSt p R n m c H H2 rows :=
  ⟨s.bx0, s.bt.trans b, hb, b _ _ (s.np s.hR) s.at_, s.hR, s.cR, s.fr, fun a ha => by
    obtain ⟨x, t, ns, h1, h2, h3, h4⟩ := s.ty a ha
    exact ⟨x, t, ns, b _ _ (s.np (s.fr a ha)) h1, h2, s.bx.tk b _ _ h3, h4⟩, s.rw⟩
theorem RwSt.ex (s : RwSt p R n m c H H1 rows) (e : Ex H1 H2) : RwSt p R n m c H H2 rows := s.but (e.but p) (s.bx.ex e)
theorem RwSt.le (s : RwSt p R n m c H H1 rows) {n' m' : Nat} (h1 : n ≤ n') (h2 : m ≤ m') : RwSt p R n' m' c H H1 rows :=
  ⟨s.bx0, s.bt, s.bx, s.at_, s.hR, s.cR, s.fr, fun a ha => by
    obtain ⟨x, t, ns, h3, h4, h5, h6⟩ := s.ty a ha
    exact ⟨x, t, ns, h3, h4, h5, by omega⟩, Nat.le_trans s.rw.1 h2, s.rw.2⟩
theorem RwSt.set (s : RwSt p R n m c H H1 rows) {a t : Addr} {x : Str} {ns : List Int} (ha : c a) (hx : TextOk x) (ht : H1 t = some (.tup (ns.map V.int))) (hl : ns.length ≤ n) : RwSt p R n m c H (upd H1 a (.lst [.str x, .ref t])) rows := by
  obtain ⟨x0, t0, ns0, q, _⟩ := s.ty a ha
  have k : Tk H1 (upd H1 a (.lst [.str x, .ref t])) := ((But.refl a H1).upd).tkl q
  refine ⟨s.bx0, s.bt.at_new (s.fr a ha), s.bx.at_upd (s.np (s.fr a ha)), by rw [upd_ne (fun e => s.cR (by rw [e]; exact ha))]; exact s.at_, s.hR, s.cR, s.fr, fun b hb => ?_, s.rw⟩
  by_cases e : b = a
  · subst e
    exact ⟨x, t, ns, upd_same, hx, k _ _ ht, hl⟩
  · obtain ⟨y, u, ms, h1, h2, h3, h4⟩ := s.ty b hb
    exact ⟨y, u, ms, by rw [upd_ne e]; exact h1, h2, k _ _ h3, h4⟩
theorem RwSt.add (s : RwSt p R n m c H H1 rows) {a t : Addr} {x : Str} {ns : List Int} (ha : H1 a = none) (hx : TextOk x) (ht : H1 t = some (.tup (ns.map V.int))) (hl : ns.length ≤ n) : RwSt p R n m (fun b => c b ∨ b = a) H (upd H1 a (.lst [.str x, .ref t])) rows := by
  have e := Ex.new (o := .lst [.str x, .ref t]) ha
  have s2 := s.ex e
  refine ⟨s.bx0, s2.bt, s2.bx, s2.at_, s.hR, fun z => z.elim s.cR (ne_of_none s.at_ ha), fun b hb => hb.elim (s.fr b) (fun z => z ▸ s.free ha), fun b hb => ?_, s.rw.1, fun y hy => ?_⟩
  · rcases hb with hb | rfl
    · exact s2.ty b hb
    · exact ⟨x, t, ns, upd_same, hx, e _ _ ht, hl⟩
  · obtain ⟨b, h1, h2⟩ := s.rw.2 y hy
    exact ⟨b, h1, .inl h2⟩
theorem RwSt.put (s : RwSt p R n m c H H1 rows) {m' : Nat} {rows' : List V} (h1 : rows'.length ≤ m') (h2 : ∀ x ∈ rows', ∃ b, x = .ref b ∧ c b) : RwSt p R n m' c H (upd H1 R (.lst rows')) rows' := by
  have k : Tk H1 (upd H1 R (.lst rows')) := ((But.refl R H1).upd).tkl s.at_
  exact ⟨s.bx0, s.bt.at_new s.hR, s.bx.at_upd (s.np s.hR), upd_same, s.hR, s.cR, s.fr, fun b hb => by
    obtain ⟨y, u, ms, h3, h4, h5, h6⟩ := s.ty b hb
    exact ⟨y, u, ms, by rw [upd_ne (fun e => s.cR (by rw [← e]; exact hb))]; exact h3, h4, k _ _ h5, h6⟩, h1, h2⟩
end
theorem cutV_lo0 (xs : List V) {lo : Int} {spot : Nat} (h : (spot : Int) ≤ lo) (hs : spot ≤ xs.length) : (cutV xs (some lo) none).length + spot ≤ xs.length := by
  unfold cutV
  rw [HT.sIx_none, List.length_take, List.length_drop]
  unfold HT.sIx
  simp only
  split <;> omega
theorem ixN_at {n : Nat} {i : Int} (h0 : 0 ≤ i) (h1 : i < (n : Int)) : ixN n i = some i.toNat := by
  unfold ixN
  first
    | (simp only; split <;> first | omega | (split <;> first | rfl | omega))
    | (rw [if_neg (by omega), if_pos (by omega)])
    | simp [h0, h1]
def spSpoiltT : Sp := fun vs H Q _ => ∃ (p : Addr) (w : Wd) (t : Tr) (v u : V) (n : Nat), vs = [.ref p, v, u] ∧ Box H p ∧ Rep H (woodD w) v ∧ WoodOk w ∧ Rep H (treeD t) u ∧ TrN n t ∧ n ≤ 20 ∧
  ∀ (t' : Tr) (u' : V) (H' : Hp), TrN (n + 1) t' → Rep H' (treeD t') u' → But p H H' → Box H' p → Q u' H'
end Bk

set_option Elab.async false
set_option linter.all false
set_option maxRecDepth 100000
set_option maxHeartbeats 4000000
/-! Bk23: woods as texts. -/
namespace Bk
open PySem PySem.Spec PyProof.Rows L2
theorem spl_one (s : Nat) : ∀ (l acc : List Nat), s ∉ acc → TL.spl [s] 0 acc l ≠ [] ∧ (TL.spl [s] 0 acc l).length ≤ l.length + 1 ∧ ∀ p ∈ TL.spl [s] 0 acc l, s ∉ p ∧ p.length ≤ acc.length + l.length ∧ ∀ c ∈ p, c ∈ acc ∨ c ∈ l
  | [], acc, hs => by
    rw [TL.spl_nil]
    exact ⟨List.cons_ne_nil _ _, Nat.le_refl _, fun p hp => by rw [List.mem_singleton.1 hp]; exact ⟨hs, Nat.le_refl _, fun c hc => .inl hc⟩⟩
  | c :: l, acc, hs => by
    by_cases h : TL.pre [s] (c :: l) = true
    · rw [TL.spl_hit h]
      obtain ⟨a, b, d⟩ := spl_one s l [] (fun z => nomatch z)
      refine ⟨List.cons_ne_nil _ _, by simp only [List.length_cons]; show (TL.spl [s] 0 [] l).length + 1 ≤ _; omega, fun p hp => ?_⟩
      rcases List.mem_cons.1 hp with rfl | hp
      · exact ⟨hs, by omega, fun c hc => .inl hc⟩
      · obtain ⟨d1, d2, d3⟩ := d p hp
        refine ⟨d1, by simp only [List.length_cons, List.length_nil] at d2 ⊢; omega, fun x hx => ?_⟩
        rcases d3 x hx with z | z
        · cases z
        · exact .inr (List.mem_cons_of_mem _ z)
    · have h' : TL.pre [s] (c :: l) = false := by simpa using h
      rw [TL.spl_miss h']
      have hc : s ≠ c := fun e => by
        subst e
        apply h
        show (List.isPrefixOf [s] (s :: l)) = true
        simp
      obtain ⟨a, b, d⟩ := spl_one s l (acc ++ [c]) (fun z => by
        rcases List.mem_append.1 z with z | z
        · exact hs z
        · exact hc (List.mem_singleton.1 z))
      refine ⟨a, by simp only [List.length_cons]; omega, fun p hp => ?_⟩
      obtain ⟨d1, d2, d3⟩ := d p hp
      refine ⟨d1, by rw [List.length_append] at d2; simp only [List.length_cons, List.length_nil] at d2 ⊢; omega, fun x hx => ?_⟩
      rcases d3 x hx with z | z
      · rcases List.mem_append.1 z with z | z
        · exact .inl z
        · rw [List.mem_singleton.1 z]
          exact .inr List.mem_cons_self
      · exact .inr (List.mem_cons_of_mem _ z)
theorem split_ok {x y : Str} {s : Nat} (hy : y = ⟨#[s]⟩) (hs : s < 256) : Txt.split x y ≠ [] ∧ (Txt.split x y).length ≤ x.length + 1 ∧ ∀ p ∈ Txt.split x y, s ∉ p.cps.toList ∧ p.length ≤ x.length ∧ ∀ c ∈ p.cps.toList, c ∈ x.cps.toList := by
  have e : TL.tl y = [s] := by subst hy; rfl
  have z := TL.split_spl x y (by rw [e]; exact List.cons_ne_nil _ _) (TL.kind_ok (by subst hy; simp [hs]))
  rw [e] at z
  obtain ⟨a, b, d⟩ := spl_one s (TL.tl x) [] (fun z => nomatch z)
  rw [← z] at a b d
  refine ⟨fun w => a (by rw [w]; rfl), by rw [List.length_map] at b; exact b, fun p hp => ?_⟩
  obtain ⟨d1, d2, d3⟩ := d (TL.tl p) (List.mem_map.2 ⟨p, hp, rfl⟩)
  refine ⟨d1, by simp only [List.length_nil, Nat.zero_add] at d2; exact d2, fun c hc => ?_⟩
  rcases d3 c hc with w | w
  · cases w
  · exact w
/-! ### what a text's rows write -/
def addPs (acc : Wd) : List Str → Option Wd
  | [] => none
  | p :: rest => if p = "kind" then (if rest.length = 1 ∧ isName (rest.headD "") = true then some (acc ++ [(rest.headD "", [])]) else none)
    else if acc ≠ [] ∧ rest.length ≤ 2 ∧ isName p = true ∧ (∀ s ∈ rest, isName s = true) then some (acc.dropLast ++ [((acc.getLastD ("", [])).1, (acc.getLastD ("", [])).2 ++ [(p, rest)])]) else none
def addRow (acc : Wd) (row : Str) : Option Wd := addPs acc (Txt.split row " ")
theorem addPs_kind {acc : Wd} {p : Str} {rest : List Str} (h : p = "kind") : addPs acc (p :: rest) = if rest.length = 1 ∧ isName (rest.headD "") = true then some (acc ++ [(rest.headD "", [])]) else none := by
  show (if p = "kind" then _ else _) = _
  rw [if_pos h]
theorem addPs_else {acc : Wd} {p : Str} {rest : List Str} (h : p ≠ "kind") : addPs acc (p :: rest) = if acc ≠ [] ∧ rest.length ≤ 2 ∧ isName p = true ∧ (∀ s ∈ rest, isName s = true) then some (acc.dropLast ++ [((acc.getLastD ("", [])).1, (acc.getLastD ("", [])).2 ++ [(p, rest)])]) else none := by
  show (if p = "kind" then _ else _) = _
  rw [if_neg h]
/-- the row that has no such form, or the wood -/
def readRows : Wd → Nat → List Str → Nat ⊕ Wd
  | acc, _, [] => .inr acc
  | acc, i, r :: rs => match addRow acc r with
    | none => .inl i
    | some a => readRows a (i + 1) rs
/-- the kinds as they are read: a list of tuples, a list of makers in each -/
structure KdAt (H : Hp) (Kl : Addr) (ras : List Addr) (acc : Wd) : Prop where
  kl : ∃ vs, H Kl = some (.lst vs) ∧ vs.length = acc.length ∧ ∀ (i : Nat) (k : Str × List Mk) (m : Addr), acc[i]? = some k → ras[i]? = some m → ∃ a, vs[i]? = some (.ref a) ∧ H a = some (.tup [.str k.1, .ref m])
  rows : Rows H ras (acc.map Prod.snd)
  ne : Kl ∉ ras
structure TextB (t : Str) : Prop where
  len : t.length ≤ 500000
  many : (Txt.split t "\n").length ≤ 400
  row : ∀ r ∈ Txt.split t "\n", TextOk r
section
variable {H H' : Hp} {Kl : Addr} {ras : List Addr} {acc : Wd}
theorem KdAt.ex (h : KdAt H Kl ras acc) (e : Ex H H') : KdAt H' Kl ras acc := by
  obtain ⟨vs, a, b, c⟩ := h.kl
  refine ⟨⟨vs, e _ _ a, b, fun i k m hk hm => ?_⟩, h.rows.keep e.tk fun a _ us q => e _ _ q, h.ne⟩
  obtain ⟨x, d1, d2⟩ := c i k m hk hm
  exact ⟨x, d1, e _ _ d2⟩
theorem KdAt.len (h : KdAt H Kl ras acc) : ras.length = acc.length := by rw [h.rows.len, List.length_map]
theorem KdAt.kind (h : KdAt H Kl ras acc) {vs : List V} {s : Str} {M a : Addr} (hk : H Kl = some (.lst vs)) (hM : H M = some (.lst [])) (hMn : M ∉ ras) (hMK : M ≠ Kl) (ha : H a = some (.tup [.str s, .ref M])) : KdAt (upd H Kl (.lst (vs ++ [.ref a]))) Kl (ras ++ [M]) (acc ++ [(s, [])]) := by
  obtain ⟨vs', b1, b2, b3⟩ := h.kl
  rw [hk] at b1
  cases b1
  have tk : Tk H (upd H Kl (.lst (vs ++ [.ref a]))) := ((But.refl Kl H).upd).tkl hk
  have rl := h.len
  refine ⟨⟨_, upd_same, by rw [List.length_append, List.length_append, b2]; rfl, fun i k m hi hm => ?_⟩, ⟨by rw [List.length_append, List.map_append, List.length_append, List.length_map, rl]; rfl, ?_, fun q x r hx hr => ?_⟩, fun z => ?_⟩
  · by_cases c : i < acc.length
    · rw [List.getElem?_append_left c] at hi
      rw [List.getElem?_append_left (by omega)] at hm
      obtain ⟨x, d1, d2⟩ := b3 i k m hi hm
      exact ⟨x, by rw [List.getElem?_append_left (by omega)]; exact d1, tk _ _ d2⟩
    · rw [List.getElem?_append_right (by omega)] at hi
      rw [List.getElem?_append_right (by omega)] at hm
      have ei : i = acc.length := by
        have := (List.getElem?_eq_some_iff.1 hi).1
        simp at this
        omega
      subst ei
      rw [Nat.sub_self] at hi
      rw [rl, Nat.sub_self] at hm
      cases hi
      cases hm
      exact ⟨a, by rw [List.getElem?_append_right (by omega), b2, Nat.sub_self]; rfl, tk _ _ ha⟩
  · rw [List.nodup_append]
    exact ⟨h.rows.nd, by simp, fun x hx y hy => by rw [List.mem_singleton.1 hy]; exact fun e => hMn (by rw [← e]; exact hx)⟩
  · rw [List.map_append] at hr
    by_cases c : q < acc.length
    · rw [List.getElem?_append_left (by omega)] at hx
      rw [List.getElem?_append_left (by rw [List.length_map]; exact c)] at hr
      obtain ⟨us, d1, d2⟩ := h.rows.at_ q x r hx hr
      have nx : x ≠ Kl := fun e => h.ne (by rw [← e]; exact List.mem_of_getElem? hx)
      exact ⟨us, by rw [upd_ne nx]; exact d1, d2.tk tk (mks_hard r)⟩
    · rw [List.getElem?_append_right (by omega)] at hx
      rw [List.getElem?_append_right (by rw [List.length_map]; omega)] at hr
      have eq : q = acc.length := by
        have := (List.getElem?_eq_some_iff.1 hx).1
        simp at this
        omega
      subst eq
      rw [rl, Nat.sub_self] at hx
      rw [List.length_map, Nat.sub_self] at hr
      cases hx
      cases hr
      exact ⟨[], by rw [upd_ne hMK]; exact hM, by simp only [List.map, Reps]⟩
  · rcases List.mem_append.1 z with z | z
    · exact h.ne z
    · exact hMK (List.mem_singleton.1 z).symm
/-- the last kind, and its list -/
theorem KdAt.last {acc0 : Wd} {k : Str × List Mk} (h : KdAt H Kl ras (acc0 ++ [k])) : ∃ vs a M us, H Kl = some (.lst vs) ∧ vs.length = acc0.length + 1 ∧ vs[acc0.length]? = some (.ref a) ∧ H a = some (.tup [.str k.1, .ref M]) ∧ ras[acc0.length]? = some M ∧ H M = some (.lst us) ∧ Reps H (k.2.map mkD) us := by
  obtain ⟨vs, b1, b2, b3⟩ := h.kl
  have rl := h.len
  rw [List.length_append, List.length_singleton] at rl b2
  have hk : (acc0 ++ [k])[acc0.length]? = some k := by rw [List.getElem?_append_right (Nat.le_refl _), Nat.sub_self]; rfl
  have hm := List.getElem?_eq_getElem (l := ras) (i := acc0.length) (by omega)
  obtain ⟨a, c1, c2⟩ := b3 _ _ _ hk hm
  obtain ⟨us, d1, d2⟩ := h.rows.at_ acc0.length _ k.2 hm (by rw [List.getElem?_map, hk]; rfl)
  exact ⟨vs, a, _, us, b1, b2, c1, c2, hm, d1, d2⟩
theorem KdAt.maker {acc0 : Wd} {k : Str × List Mk} {m : Mk} {M : Addr} {us : List V} {v : V} (h : KdAt H Kl ras (acc0 ++ [k])) (hm : ras[acc0.length]? = some M) (hu : H M = some (.lst us)) (rs : Reps H (k.2.map mkD) us) (rv : Rep H (mkD m) v) :
    KdAt (upd H M (.lst (us ++ [v]))) Kl ras (acc0 ++ [(k.1, k.2 ++ [m])]) := by
  obtain ⟨vs, b1, b2, b3⟩ := h.kl
  have tk : Tk H (upd H M (.lst (us ++ [v]))) := ((But.refl M H).upd).tkl hu
  have hk : (acc0 ++ [k])[acc0.length]? = some k := by rw [List.getElem?_append_right (Nat.le_refl _), Nat.sub_self]; rfl
  have z := h.rows.put hm (by rw [List.getElem?_map, hk]; rfl) hu rs rv
  have nK : Kl ≠ M := fun e => h.ne (by rw [e]; exact List.mem_of_getElem? hm)
  have es : ((acc0 ++ [k]).map Prod.snd).set acc0.length (k.2 ++ [m]) = (acc0 ++ [(k.1, k.2 ++ [m])]).map Prod.snd := by
    rw [List.map_append, List.map_append]
    have e1 : acc0.length = (acc0.map Prod.snd).length := (List.length_map _).symm
    rw [e1, List.set_append_right _ _ (Nat.le_refl _), Nat.sub_self]
    rfl
  rw [es] at z
  refine ⟨⟨vs, by rw [upd_ne nK]; exact b1, by rw [b2, List.length_append, List.length_append]; rfl, fun i kk mm hi hmm => ?_⟩, z, h.ne⟩
  by_cases c : i < acc0.length
  · rw [List.getElem?_append_left c] at hi
    obtain ⟨x, d1, d2⟩ := b3 i kk mm (by rw [List.getElem?_append_left c]; exact hi) hmm
    exact ⟨x, d1, tk _ _ d2⟩
  · rw [List.getElem?_append_right (by omega)] at hi
    have ei : i = acc0.length := by
      have := (List.getElem?_eq_some_iff.1 hi).1
      simp at this
      omega
    subst ei
    rw [Nat.sub_self] at hi
    cases hi
    obtain ⟨x, d1, d2⟩ := b3 _ k mm hk hmm
    exact ⟨x, d1, tk _ _ d2⟩
end
/-- what is read, within bounds -/
structure RdB (i : Nat) (acc : Wd) : Prop where
  wide : acc.length ≤ i
  name : ∀ k ∈ acc, TextOk k.1
  row : ∀ k ∈ acc, k.2.length ≤ i
  mkr : ∀ k ∈ acc, ∀ m ∈ k.2, TextOk m.1 ∧ m.2.length ≤ 2 ∧ ∀ s ∈ m.2, TextOk s
theorem RdB.bnd {i : Nat} {acc : Wd} (h : RdB i acc) (hi : i ≤ 500) : WdB acc := ⟨by have := h.wide; omega, h.name, fun k hk => by have := h.row k hk; omega, fun k hk m hm => by
  obtain ⟨a, b, c⟩ := h.mkr k hk m hm
  exact ⟨a, by omega, c⟩⟩
theorem RdB.kind {i : Nat} {acc : Wd} {s : Str} (h : RdB i acc) (hs : isName s = true) : RdB (i + 1) (acc ++ [(s, [])]) := by
  refine ⟨by rw [List.length_append, List.length_singleton]; have := h.wide; omega, fun k hk => ?_, fun k hk => ?_, fun k hk m hm => ?_⟩
  · rcases List.mem_append.1 hk with hk | hk
    · exact h.name k hk
    · rw [List.mem_singleton.1 hk]; exact isName_text hs
  · rcases List.mem_append.1 hk with hk | hk
    · have := h.row k hk; omega
    · rw [List.mem_singleton.1 hk]; exact Nat.zero_le _
  · rcases List.mem_append.1 hk with hk | hk
    · exact h.mkr k hk m hm
    · rw [List.mem_singleton.1 hk] at hm; cases hm
theorem RdB.maker {i : Nat} {acc0 : Wd} {k : Str × List Mk} {p : Str} {rest : List Str} (h : RdB i (acc0 ++ [k])) (hp : isName p = true) (hl : rest.length ≤ 2) (hr : ∀ s ∈ rest, isName s = true) : RdB (i + 1) (acc0 ++ [(k.1, k.2 ++ [(p, rest)])]) := by
  have hk0 : k ∈ acc0 ++ [k] := List.mem_append_right _ List.mem_cons_self
  have w := h.wide
  rw [List.length_append, List.length_singleton] at w
  refine ⟨by rw [List.length_append, List.length_singleton]; omega, fun x hx => ?_, fun x hx => ?_, fun x hx m hm => ?_⟩
  · rcases List.mem_append.1 hx with hx | hx
    · exact h.name x (List.mem_append_left _ hx)
    · rw [List.mem_singleton.1 hx]; exact h.name k hk0
  · rcases List.mem_append.1 hx with hx | hx
    · have := h.row x (List.mem_append_left _ hx); omega
    · rw [List.mem_singleton.1 hx]
      have := h.row k hk0
      show (k.2 ++ [(p, rest)]).length ≤ _
      rw [List.length_append, List.length_singleton]; omega
  · rcases List.mem_append.1 hx with hx | hx
    · exact h.mkr x (List.mem_append_left _ hx) m hm
    · rw [List.mem_singleton.1 hx] at hm
      rcases List.mem_append.1 hm with hm | hm
      · exact h.mkr k hk0 m hm
      · rw [List.mem_singleton.1 hm]
        exact ⟨isName_text hp, hl, fun s hs => isName_text (hr s hs)⟩
theorem readRows_at {acc a : Wd} {i : Nat} {r : Str} {rs : List Str} (h : addRow acc r = some a) : readRows acc i (r :: rs) = readRows a (i + 1) rs := by
  show (match addRow acc r with | none => _ | some a => _) = _
  rw [h]
theorem readRows_no {acc : Wd} {i : Nat} {r : Str} {rs : List Str} (h : addRow acc r = none) : readRows acc i (r :: rs) = .inl i := by
  show (match addRow acc r with | none => _ | some a => _) = _
  rw [h]
def spReadW (C1 C2 : Addr) : Sp := fun vs H Q E => ∃ t : Str, vs = [.str t] ∧ TextB t ∧ (∀ i, readRows [] 0 (Txt.split t "\n") = .inl i → ∀ d H', Ex H H' → H' d = some (.xd [("row", .int (i : Nat))]) → E (.ref C1) (some d) H') ∧
  ∀ w, readRows [] 0 (Txt.split t "\n") = .inr w → (lookDue w = none → ∀ v H', Ex H H' → Rep H' (woodD w) v → Q v H') ∧ ∀ r, lookDue w = some r → ∀ d H', Ex H H' → H' d = some (.xd [("name", .str r.2), ("word", .str r.1)]) → E (.ref C2) (some d) H'
theorem atI_last {vs : List V} {n : Nat} {x : V} (hl : vs.length = n + 1) (hx : vs[n]? = some x) : atI vs (-1) = some x := by
  unfold atI ixN
  rw [if_neg (by decide), if_pos (by omega)]
  show vs[((-1 : Int) + vs.length).toNat]? = some x
  have : ((-1 : Int) + vs.length).toNat = n := by omega
  rw [this]
  exact hx
theorem cutV_tail (x : V) (xs : List V) : cutV (x :: xs) (some 1) none = xs := by
  unfold cutV
  have e : HT.sIx (x :: xs).length 0 (some 1) = min 1 (xs.length + 1) := HT.sIx_nat (x :: xs).length 0 1
  rw [e, HT.sIx_none]
  have e2 : min 1 (xs.length + 1) = 1 := by omega
  rw [e2]
  show xs.take ((x :: xs).length - 1) = xs
  simp
theorem reps_at {α : Type} {H : Hp} {f : α → D} : ∀ {as : List α} {vs : List V}, vs.length = as.length → (∀ (j : Nat) (v : V), vs[j]? = some v → ∃ a, as[j]? = some a ∧ Rep H (f a) v) → Reps H (as.map f) vs
  | [], [], _, _ => by simp only [List.map, Reps]
  | [], _ :: _, h, _ => by cases h
  | _ :: _, [], h, _ => by cases h
  | a :: as, v :: vs, h, h2 => by
    obtain ⟨a', e1, r⟩ := h2 0 v rfl
    cases e1
    have z := reps_at (f := f) (H := H) (as := as) (vs := vs) (Nat.succ.inj h) fun j u hj => h2 (j + 1) u hj
    simp only [List.map, Reps]
    exact ⟨v, vs, rfl, r, z⟩
theorem mk_dp {K : PySem.W.Frag} {H : Hp} {m : Mk} {v : V} {k : Nat} (hm : TextOk m.1) (hp : ∀ s ∈ m.2, TextOk s) (r : Rep H (mkD m) v) : DpOk K H v (k + 2) := by
  obtain ⟨a, y, z, rfl, ha, ry, rz⟩ := Rep.twoI r
  cases ry.strI
  obtain ⟨c, ys, rfl, hc, rs⟩ := rz.tupI
  cases rs.strs
  refine dpok_tup (k := k + 1) ha fun y hy => ?_
  simp only [List.mem_cons, List.not_mem_nil, or_false] at hy
  rcases hy with rfl | rfl
  · exact dpok_str hm.2
  · refine dpok_tup (k := k) hc fun z hz => ?_
    obtain ⟨s, hs, rfl⟩ := List.mem_map.1 hz
    exact dpok_str (hp s hs).2
theorem kd_dp {K : PySem.W.Frag} {H : Hp} {Kl : Addr} {ras : List Addr} {acc : Wd} {i : Nat} {vs : List V} (h : KdAt H Kl ras acc) (b : RdB i acc) (hv : H Kl = some (.lst vs)) : ∀ x ∈ vs, DpOk K H x 60 := by
  intro x hx
  obtain ⟨vs', b1, b2, b3⟩ := h.kl
  rw [hv] at b1
  cases b1
  obtain ⟨j, hj⟩ := List.mem_iff_getElem?.1 hx
  have jl := (List.getElem?_eq_some_iff.1 hj).1
  have rl := h.len
  have hk : acc[j]? = some acc[j] := List.getElem?_eq_getElem (by omega)
  obtain ⟨a, c1, c2⟩ := b3 j _ _ hk (List.getElem?_eq_getElem (by omega))
  rw [c1] at hj
  cases hj
  obtain ⟨us, d1, d2⟩ := h.rows.at_ j _ acc[j].2 (List.getElem?_eq_getElem (by omega)) (by rw [List.getElem?_map, hk]; rfl)
  have hm := List.mem_of_getElem? hk
  refine dpok_tup (k := 59) c2 fun y hy => ?_
  simp only [List.mem_cons, List.not_mem_nil, or_false] at hy
  rcases hy with rfl | rfl
  · exact dpok_str (b.name _ hm).2
  · refine dpok_lst (k := 58) d1 fun z hz => ?_
    obtain ⟨q, hq⟩ := List.mem_iff_getElem?.1 hz
    obtain ⟨d, e1, e2⟩ := d2.get hq
    rw [List.getElem?_map] at e1
    cases em : acc[j].2[q]? with
    | none => rw [em] at e1; cases e1
    | some m =>
      rw [em] at e1
      cases e1
      obtain ⟨t1, t2, t3⟩ := b.mkr _ hm m (List.mem_of_getElem? em)
      exact mk_dp (k := 56) t1 t3 e2
def dueW (t : Str) : D := match readRows [] 0 (Txt.split t "\n") with
  | .inl i => .tup [.str "text", .int (i : Nat)]
  | .inr w => match lookDue w with
    | none => .tup [.str "told", woodD w]
    | some r => .tup [.str "wood", .str r.1, .str r.2]
theorem dueW_text {t : Str} {i : Nat} (h : readRows [] 0 (Txt.split t "\n") = .inl i) : dueW t = .tup [.str "text", .int (i : Nat)] := by unfold dueW; rw [h]
theorem dueW_told {t : Str} {w : Wd} (h : readRows [] 0 (Txt.split t "\n") = .inr w) (h2 : lookDue w = none) : dueW t = .tup [.str "told", woodD w] := by
  unfold dueW
  rw [h]
  show (match lookDue w with | none => _ | some r => _) = _
  rw [h2]
theorem dueW_wood {t : Str} {w : Wd} {r : Str × Str} (h : readRows [] 0 (Txt.split t "\n") = .inr w) (h2 : lookDue w = some r) : dueW t = .tup [.str "wood", .str r.1, .str r.2] := by
  unfold dueW
  rw [h]
  show (match lookDue w with | none => _ | some r => _) = _
  rw [h2]
def spDueW : Sp := fun vs H Q _ => ∃ t : Str, vs = [.str t] ∧ TextB t ∧ ∀ v H', Ex H H' → Rep H' (dueW t) v → Q v H'
theorem op_eqDK {X : Cx} (K : PySem.W.Frag) (hu : X.A.units + 64 < cLine) (hK : X.K = K := by rfl) : OpR X (compareOp .Eq) (rEqD K) := by
  subst hK
  exact op_eqD hu
def spShow : Sp := fun vs H Q _ => ∃ (w : Wd) (v : V), vs = [v] ∧ Rep H (woodD w) v ∧ WoodOk w ∧ ∀ H', Ex H H' → Q (.str (Txt.join "\n" ((w.map fun k => (("kind " : Str) ++ k.1) :: k.2.map fun m => Txt.join " " (m.1 :: m.2)).flatten))) H'
def rowsK (k : Str × List Mk) : List Str := (("kind " : Str) ++ k.1) :: k.2.map fun m => Txt.join " " (m.1 :: m.2)
def rowsW (w : Wd) : List Str := (w.map rowsK).flatten
def spRowsW : Sp := fun vs H Q _ => ∃ (w : Wd) (v : V), vs = [v] ∧ Rep H (woodD w) v ∧ WoodOk w ∧ ∀ l H', Ex H H' → H' l = some (.lst ((rowsW w).map V.str)) → H l = none → Q (.ref l) H'
/-- a list of two bools compared -/
theorem g_eqBB {K : PySem.W.Frag} {H : Hp} {Q : VK} {a b : Addr} {x y z u : Bool} (ha : H a = some (.lst [.bl x, .bl y])) (hb : H b = some (.lst [.bl z, .bl u])) (q : Q (.bl (decide (x = z ∧ y = u))) H) : rEqD K (.ref a) (.ref b) H Q := by
  refine ⟨_, _, .lst (sqL ha) (.cons (.bl x) (.cons (.bl y) .nil)), .lst (sqL hb) (.cons (.bl z) (.cons (.bl u) .nil)), ?_, ?_, ?_⟩
  · cases x <;> cases y <;> rfl
  · cases z <;> cases u <;> rfl
  · have e : PyData.eqv (.list [.bool x, .bool y]) (.list [.bool z, .bool u]) = decide (x = z ∧ y = u) := by
      cases x <;> cases y <;> cases z <;> cases u <;> rfl
    rw [e]
    exact q
theorem isName_len6 {s : Str} (h : isName s = true) : s.length ≤ 6 := by
  unfold isName at h
  simp only [Bool.and_eq_true, decide_eq_true_eq] at h
  omega
theorem rowsW_take {w : Wd} {i : Nat} {k : Str × List Mk} (h : w[i]? = some k) : rowsW (w.take (i + 1)) = rowsW (w.take i) ++ rowsK k := by
  unfold rowsW
  rw [take_at h, List.map_append, List.flatten_append]
  simp
theorem rowsW_count : ∀ (w : Wd) (n : Nat), (rowsW w).length = w.length + (tabFrom n w).length
  | [], n => rfl
  | k :: w, n => by
    have e : rowsW (k :: w) = rowsK k ++ rowsW w := by
      unfold rowsW
      rw [List.map_cons, List.flatten_cons]
    rw [e, List.length_append, rowsW_count w (n + 1)]
    show ((k.2.map _).length + 1) + _ = (w.length + 1) + (k.2.map (fun m => (n, m)) ++ tabFrom (n + 1) w).length
    rw [List.length_append, List.length_map, List.length_map]
    omega
theorem rowsW_len {w : Wd} (h : WoodOk w) (i : Nat) : (rowsW (w.take i)).length ≤ 16 := by
  have a := rowsW_count w 0
  have b := h.kinds
  have c := h.many
  have d : (rowsW (w.take i)).length ≤ (rowsW w).length := by
    have e : rowsW w = rowsW (w.take i) ++ rowsW (w.drop i) := by
      unfold rowsW
      rw [← List.flatten_append, ← List.map_append, List.take_append_drop]
    rw [e, List.length_append]
    omega
  omega
def rJoin (K : PySem.W.Frag) : V → List V → Hp → VK → Prop := fun x xs H Q => ∃ a p, ∃ ys : List Str, x = .str a ∧ xs = [.ref p] ∧ (SqL K H p (ys.map V.str) ∨ SqT K H p (ys.map V.str)) ∧ (ys.map (·.length)).sum + ys.length * a.length ≤ 16777216 ∧ Q (.str (Txt.join a ys)) H
theorem pe_joinK {X : Cx} (K : PySem.W.Frag) {o e : Expr} {to te : TE} {apos pos : Pos} (ho : PE X o to) (he : PE X e te) (hK : X.K = K := by rfl) (hs : starEach [e] X.env = [(false, eval e X.env)] := by rfl) (hbase : attributeBase o "join" X.env (eval o X.env) = eval o X.env := by rfl) (hline : (apos.endLine == pos.line) = true := by rfl) :
    PE X (.Call (.Attribute o "join" apos) [e] [] pos) (tM1 (rJoin K) to te) := by
  subst hK
  exact pe_join ho he hs hbase hline
/-- lengths of a list of texts, each at most b -/
theorem sum_le {b : Nat} : ∀ {ss : List Str}, (∀ s ∈ ss, s.length ≤ b) → (ss.map (·.length)).sum ≤ ss.length * b
  | [], _ => Nat.zero_le _
  | s :: ss, h => by
    have a := h s List.mem_cons_self
    have z := sum_le (ss := ss) fun t ht => h t (List.mem_cons_of_mem _ ht)
    rw [List.map_cons, List.sum_cons, List.length_cons, Nat.succ_mul]
    omega
theorem joinC {y : Str} {ss : List Str} {b : Nat} (h : ∀ s ∈ ss, s.length ≤ b) (hn : ss.length ≤ 1000) (hb : b ≤ 10000) (hy : y.length ≤ 10) : (ss.map (·.length)).sum + ss.length * y.length ≤ 16777216 := by
  have a := sum_le h
  have c : ss.length * b ≤ 1000 * 10000 := Nat.mul_le_mul hn hb
  have d : ss.length * y.length ≤ 1000 * 10 := Nat.mul_le_mul hn hy
  omega
theorem joinL_len {S : List Nat} : ∀ (ps : List (List Nat)), (TL.joinL S ps).length ≤ (ps.map (·.length + S.length)).sum
  | [] => Nat.zero_le _
  | [p] => by
    show p.length ≤ _
    simp
  | p :: q :: ps => by
    have z := joinL_len (S := S) (q :: ps)
    show (p ++ (S ++ TL.joinL S (q :: ps))).length ≤ _
    rw [List.length_append, List.length_append, List.map_cons, List.sum_cons]
    omega
theorem join_chars {y : Str} {ps : List Str} : (Txt.join y ps).cps.toList = TL.joinL (TL.tl y) (ps.map TL.tl) := by
  have e1 : ∀ s : Str, SX.S (TL.tl s) = s := fun s => by
    apply TL.ext_tl
    show (SX.S (TL.tl s)).cps.toList = s.cps.toList
    unfold SX.S
    simp [TL.tl]
  have e2 : ps = (ps.map TL.tl).map SX.S := by
    rw [List.map_map]
    conv => lhs; rw [← List.map_id ps]
    exact List.map_congr_left fun s _ => (e1 s).symm
  have e3 := SX.join_S (TL.tl y) (ps.map TL.tl)
  rw [← e2, e1 y] at e3
  rw [e3]
theorem mem_joinL {S : List Nat} {c : Nat} : ∀ {ps : List (List Nat)}, c ∈ TL.joinL S ps → c ∈ S ∨ ∃ p ∈ ps, c ∈ p
  | [], h => by cases h
  | [p], h => .inr ⟨p, List.mem_cons_self, h⟩
  | p :: q :: ps, h => by
    rcases List.mem_append.1 (show c ∈ p ++ (S ++ TL.joinL S (q :: ps)) from h) with h | h
    · exact .inr ⟨p, List.mem_cons_self, h⟩
    · rcases List.mem_append.1 h with h | h
      · exact .inl h
      · rcases mem_joinL h with h | ⟨r, hr, h⟩
        · exact .inl h
        · exact .inr ⟨r, List.mem_cons_of_mem _ hr, h⟩
theorem join_len {y : Str} {ps : List Str} {b : Nat} (h : ∀ s ∈ ps, s.length ≤ b) : (Txt.join y ps).length ≤ ps.length * (b + y.length) := by
  rw [str_len, join_chars]
  refine Nat.le_trans (joinL_len _) ?_
  rw [List.map_map]
  have e : ((ps.map ((fun p : List Nat => p.length + (TL.tl y).length) ∘ TL.tl)).sum) ≤ ps.length * (b + y.length) := by
    induction ps with
    | nil => exact Nat.zero_le _
    | cons p ps ih =>
      have a := h p List.mem_cons_self
      have z := ih fun s hs => h s (List.mem_cons_of_mem _ hs)
      rw [List.map_cons, List.sum_cons, List.length_cons, Nat.succ_mul]
      have e1 : ((fun p : List Nat => p.length + (TL.tl y).length) ∘ TL.tl) p = p.length + y.length := by
        show p.cps.toList.length + y.cps.toList.length = _
        rw [← str_len, ← str_len]
      rw [e1]
      omega
  exact e
/-- a row as it may be: no line feed, signs, so long -/
structure RowOk (b : Nat) (s : Str) : Prop where
  len : s.length ≤ b
  sign : ∀ c ∈ s.cps.toList, c < 0x110000
  line : 10 ∉ s.cps.toList
theorem isName_row {s : Str} (h : isName s = true) : RowOk 6 s := ⟨isName_len6 h, (isName_text h).2, fun z => by
  have := isName_low h 10 z
  revert this
  decide⟩
theorem rowK_ok {w : Wd} (ok : WoodOk w) {k : Str × List Mk} (hk : k ∈ w) : ∀ s ∈ rowsK k, RowOk 21 s := by
  intro s hs
  rcases List.mem_cons.1 hs with rfl | hs
  · have a := isName_row (ok.name k hk)
    have e : ((("kind " : Str) ++ k.1) : Str).cps.toList = ("kind " : Str).cps.toList ++ k.1.cps.toList := by
      show (("kind " : Str).cps ++ k.1.cps).toList = _
      simp
    refine ⟨by rw [str_len, e, List.length_append, ← str_len k.1]; have := a.len; show 5 + k.1.length ≤ 21; omega, fun c hc => ?_, fun hc => ?_⟩
    · rw [e] at hc
      rcases List.mem_append.1 hc with hc | hc
      · exact (by decide +kernel : ∀ c ∈ ("kind " : Str).cps.toList, c < 0x110000) c hc
      · exact a.sign c hc
    · rw [e] at hc
      rcases List.mem_append.1 hc with hc | hc
      · revert hc
        decide +kernel
      · exact a.line hc
  · obtain ⟨m, hm, rfl⟩ := List.mem_map.1 hs
    obtain ⟨m1, m2, m3⟩ := ok.mkr k hk m hm
    have all : ∀ s ∈ m.1 :: m.2, RowOk 6 s := fun s hs => by
      rcases List.mem_cons.1 hs with rfl | hs
      · exact isName_row m1
      · obtain ⟨k', hk', rfl⟩ := List.mem_map.1 (m3 s hs)
        exact isName_row (ok.name k' hk')
    refine ⟨?_, fun c hc => ?_, fun hc => ?_⟩
    · refine Nat.le_trans (join_len (b := 6) fun s hs => (all s hs).len) ?_
      show (m.2.length + 1) * 7 ≤ 21
      omega
    · rw [join_chars] at hc
      rcases mem_joinL hc with hc | ⟨p, hp, hc⟩
      · exact (by decide +kernel : ∀ c ∈ TL.tl (" " : Str), c < 0x110000) c hc
      · obtain ⟨s, hs, rfl⟩ := List.mem_map.1 hp
        exact (all s hs).sign c hc
    · rw [join_chars] at hc
      rcases mem_joinL hc with hc | ⟨p, hp, hc⟩
      · revert hc
        decide +kernel
      · obtain ⟨s, hs, rfl⟩ := List.mem_map.1 hp
        exact (all s hs).line hc
theorem rowsW_ok {w : Wd} (ok : WoodOk w) : ∀ s ∈ rowsW w, RowOk 21 s := by
  intro s hs
  unfold rowsW at hs
  obtain ⟨l, hl, hs⟩ := List.mem_flatten.1 hs
  obtain ⟨k, hk, rfl⟩ := List.mem_map.1 hl
  exact rowK_ok ok hk s hs
def spAnyTextS : Sp := fun vs H Q _ => ∃ p : Addr, vs = [.ref p] ∧ Box H p ∧ ∀ (s : Str) (H' : Hp), TextOk s → s.length ≤ 10 → But p H H' → Box H' p → Q (.str s) H'
theorem anyTexts_len : ∀ s ∈ anyTexts, s.length ≤ 10 := by decide +kernel
/-- the parts are one more than the separators -/
theorem spl_count (s : Nat) : ∀ (l acc : List Nat), (TL.spl [s] 0 acc l).length = l.count s + 1
  | [], acc => by rw [TL.spl_nil]; rfl
  | c :: l, acc => by
    by_cases h : c = s
    · subst h
      rw [TL.spl_hit (by show List.take 1 (c :: l) == [c]; simp)]
      show (TL.spl [c] 0 [] l).length + 1 = _
      rw [spl_count c l [], List.count_cons_self]
    · have h' : TL.pre [s] (c :: l) = false := by
        show (List.take 1 (c :: l) == [s]) = false
        simp [h]
      rw [TL.spl_miss h', spl_count s l (acc ++ [c]), List.count_cons_of_ne h]
theorem split_count {x y : Str} {s : Nat} (hy : y = ⟨#[s]⟩) (hs : s < 256) : (Txt.split x y).length = x.cps.toList.count s + 1 := by
  have e : TL.tl y = [s] := by subst hy; rfl
  have z := TL.split_spl x y (by rw [e]; exact List.cons_ne_nil _ _) (TL.kind_ok (by subst hy; simp [hs]))
  rw [e] at z
  have w := congrArg List.length z
  rw [List.length_map, spl_count] at w
  exact w
theorem joinL_count {S : List Nat} {s : Nat} : ∀ {ps : List (List Nat)}, (TL.joinL S ps).count s ≤ (ps.map (·.count s)).sum + (ps.length - 1) * S.count s
  | [] => Nat.zero_le _
  | [p] => by
    show p.count s ≤ _
    simp
  | p :: q :: ps => by
    have z := joinL_count (S := S) (s := s) (ps := q :: ps)
    show (p ++ (S ++ TL.joinL S (q :: ps))).count s ≤ _
    rw [List.count_append, List.count_append, List.map_cons, List.sum_cons]
    have e : (p :: q :: ps).length - 1 = ((q :: ps).length - 1) + 1 := by simp
    rw [e, Nat.succ_mul]
    omega
end Bk

set_option Elab.async false
set_option linter.all false
set_option maxRecDepth 100000
set_option maxHeartbeats 4000000
/-! Bk24: replace of written texts behind a token. -/
namespace Bk
open PySem PySem.Spec PyProof.Rows L2
section
variable {X : Cx}
theorem pet_of {e : Expr} {te : TE} (h : PE X e te) : PET X e te := fun pins s σ H Q _ I q => h.run pins s σ H Q I q
/-- o.replace(y, z), y and z written texts -/
def tReplC (y z : Str) (to : TE) : TE := fun σ H Q => to σ H fun x H1 => ∃ a : Str, x = .str a ∧ (y == z) = false ∧ a.length + (a.length + 1) * z.length ≤ 16777216 ∧ Q (.str (Txt.replace a y z)) H1
theorem pet_repl {o : Expr} {to : TE} {y z : Str} {j0 j1 : Nat} {c0 c1 apos pos : Pos} (ho : PE X o to)
    (hst : starEach [.Constant (.str y) j0 c0, .Constant (.str z) j1 c1] X.env = [(false, eval (.Constant (.str y) j0 c0) X.env), (false, eval (.Constant (.str z) j1 c1) X.env)] := by rfl)
    (hbase : attributeBase o "replace" X.env (eval o X.env) = eval o X.env := by rfl) (hline : (apos.endLine == pos.line) = true := by rfl) :
    PET X (.Call (.Attribute o "replace" apos) [.Constant (.str y) j0 c0, .Constant (.str z) j1 c1] [] pos) (tReplC y z to) := by
  intro pins s σ H Q h0 I h
  refine PySem.Call_method2 hbase hst hline (wpAny_mono (PySem.wpAny_toks_of h0 (ho.run pins s σ H _ I h)) (fun v s1 q => ?_) fun _ _ w => w.2)
  obtain ⟨hk, x, H1, I1, r1, a, ex, hyz, hb, q⟩ := q
  subst ex
  obtain ⟨t, rfl⟩ := _root_.id r1
  refine ⟨"str", _, F.plainAttrs_str, F.slot_str_replace, F.type_str_replace, typeIs_str _ _ _, (fun _ e => nomatch e), Calls.callWith_builtin rfl (Calls.evalArgs_plain (Calls.spliced_cons (Calls.Constant_str ?_)))⟩
  refine Calls.spliced_cons (Calls.Constant_str (Calls.spliced_nil ?_))
  exact PySem.SC.replace (show s1.toks ≠ 0 by omega) (show s1.toks + 1 ≠ 0 by omega) (show s1.toks ≠ s1.toks + 1 by omega) hyz hb fun t' k => ⟨.str (Txt.replace a y z), H1, I1.tok k, ⟨t', rfl⟩, q⟩
/-- the first item begins with a written text: a token is out behind it -/
theorem pa_constOp {c : Str} {j : Nat} {cp bp : Pos} {b : Expr} {op : Operator} {r : R2} {tb : TE} {es : List Expr} {ta : TA} (ho : OpR X (binaryOp op) r) (hb : PE X b tb) (hr : PAT X es ta)
    (hs : starEach (.BinOp (.Constant (.str c) j cp) op b bp :: es) X.env = (false, eval (.BinOp (.Constant (.str c) j cp) op b bp) X.env) :: starEach es X.env := by rfl) :
    PA X (.BinOp (.Constant (.str c) j cp) op b bp :: es) (tCons (tOp r (tC (.str c)) tb) ta) := by
  refine ⟨fun pos pins s σ H Q I h => ?_⟩
  rw [hs]
  show wpAny _ _ (spliced ((false, eval (.BinOp (.Constant (.str c) j cp) op b bp) X.env) :: backTo pos (starEach es X.env))) _ _ s
  refine Calls.spliced_cons (wpAny_BinOp (Calls.Constant_str ?_))
  have I0 := I.tok (s.toks + 1)
  refine wpAny_mono (PySem.wpAny_toks_of (n := 1) (show 1 ≤ s.toks + 1 by omega) (hb.run pins { s with toks := s.toks + 1 } σ H _ I0 h)) (fun u s2 q => ?_) fun _ _ w => w.2
  obtain ⟨k2, y, H2, I2, r2, q2⟩ := q
  refine wpAny_mono (PySem.wpAny_toks_of k2 (ho pins s2 σ H2 (.str c) y _ u _ I2 ⟨_, rfl⟩ r2 q2)) (fun v s3 q => ?_) fun _ _ w => w.2
  obtain ⟨k3, z, H3, I3, r3, q3⟩ := q
  exact thn (hr pos pins s3 σ H3 _ k3 I3 q3) fun us s4 ⟨xs, H4, I4, r4, q4⟩ => ⟨z :: xs, H4, I4, .cons r3 r4, q4⟩
end
theorem spl_app (s : Nat) (rest : List Nat) : ∀ (p acc : List Nat), TL.spl [s] 0 acc (p ++ s :: rest) = TL.spl [s] 0 acc p ++ TL.spl [s] 0 [] rest
  | [], acc => by
    rw [List.nil_append, TL.spl_nil, TL.spl_hit (by show (List.take 1 (s :: rest) == [s]) = true; simp)]
    rfl
  | c :: p, acc => by
    by_cases h : c = s
    · subst h
      have h1 : TL.pre [c] (c :: p) = true := by show (List.take 1 (c :: p) == [c]) = true; simp
      have h2 : TL.pre [c] (c :: (p ++ c :: rest)) = true := by show (List.take 1 (c :: (p ++ c :: rest)) == [c]) = true; simp
      show TL.spl [c] 0 acc (c :: (p ++ c :: rest)) = _
      rw [TL.spl_hit h1, TL.spl_hit h2]
      show acc :: TL.spl [c] 0 [] (p ++ c :: rest) = _
      rw [spl_app c rest p []]
      rfl
    · have h1 : TL.pre [s] (c :: p) = false := by show (List.take 1 (c :: p) == [s]) = false; simp [h]
      have h2 : TL.pre [s] (c :: (p ++ s :: rest)) = false := by show (List.take 1 (c :: (p ++ s :: rest)) == [s]) = false; simp [h]
      show TL.spl [s] 0 acc (c :: (p ++ s :: rest)) = _
      rw [TL.spl_miss h1, TL.spl_miss h2, spl_app s rest p (acc ++ [c])]
theorem spl_joinL (s : Nat) : ∀ {ps : List (List Nat)}, ps ≠ [] → TL.spl [s] 0 [] (TL.joinL [s] ps) = (ps.map (TL.spl [s] 0 [])).flatten
  | [], h => absurd rfl h
  | [p], _ => by
    show TL.spl [s] 0 [] p = TL.spl [s] 0 [] p ++ []
    rw [List.append_nil]
  | p :: q :: ps, _ => by
    have z := spl_joinL s (ps := q :: ps) (List.cons_ne_nil _ _)
    show TL.spl [s] 0 [] (p ++ s :: TL.joinL [s] (q :: ps)) = _
    rw [spl_app, z]
    rfl
theorem map_tl_inj {as bs : List Str} (h : as.map TL.tl = bs.map TL.tl) : as = bs := by
  induction as generalizing bs with
  | nil =>
    cases bs with
    | nil => rfl
    | cons _ _ => cases h
  | cons a as ih =>
    cases bs with
    | nil => cases h
    | cons b bs =>
      rw [List.map_cons, List.map_cons] at h
      obtain ⟨h1, h2⟩ := List.cons.inj h
      rw [TL.ext_tl h1, ih h2]
theorem split_tl (x : Str) : (Txt.split x "\n").map TL.tl = TL.spl [10] 0 [] (TL.tl x) := TL.split_spl x "\n" (by decide) (TL.kind_ok (by decide +kernel))
theorem split_joined {rows : List Str} (h : rows ≠ []) : Txt.split (Txt.join "\n" rows) "\n" = (rows.map fun r => Txt.split r "\n").flatten := by
  refine map_tl_inj ?_
  rw [split_tl]
  show TL.spl [10] 0 [] (Txt.join "\n" rows).cps.toList = _
  rw [join_chars]
  show TL.spl [10] 0 [] (TL.joinL [10] (rows.map TL.tl)) = _
  rw [spl_joinL 10 (fun z => h (List.map_eq_nil_iff.1 z)), List.map_flatten, List.map_map, List.map_map]
  congr 1
  refine List.map_congr_left fun r _ => ?_
  exact (split_tl r).symm
theorem split_row {r : Str} (h : 10 ∉ r.cps.toList) : Txt.split r "\n" = [r] := by
  refine map_tl_inj ?_
  rw [split_tl, TL.spl_last1 h]
  rfl
/-- rows joined and split again: within bounds -/
theorem rows_again {b m k : Nat} {rows : List Str} (hne : rows ≠ []) (hb : ∀ r ∈ rows, r.length ≤ b ∧ ∀ c ∈ r.cps.toList, c < 0x110000) (hk : (rows.map fun r => r.cps.toList.count 10).sum ≤ k) (hm : rows.length ≤ m) :
    Txt.split (Txt.join "\n" rows) "\n" ≠ [] ∧ (Txt.split (Txt.join "\n" rows) "\n").length ≤ m + k ∧ ∀ s ∈ Txt.split (Txt.join "\n" rows) "\n", RowOk b s := by
  refine ⟨(split_ok (x := Txt.join "\n" rows) (y := "\n") (s := 10) rfl (by decide)).1, ?_, fun s hs => ?_⟩
  · rw [split_joined hne, List.length_flatten, List.map_map]
    have e : ∀ rs : List Str, (rs.map (List.length ∘ fun r => Txt.split r "\n")).sum = (rs.map fun r => r.cps.toList.count 10).sum + rs.length := by
      intro rs
      induction rs with
      | nil => rfl
      | cons r rs ih =>
        rw [List.map_cons, List.sum_cons, ih, List.map_cons, List.sum_cons, List.length_cons]
        show (Txt.split r "\n").length + _ = _
        rw [split_count (x := r) (y := "\n") (s := 10) rfl (by decide)]
        omega
    rw [e]
    omega
  · rw [split_joined hne] at hs
    obtain ⟨l, hl, hs⟩ := List.mem_flatten.1 hs
    obtain ⟨r, hr, rfl⟩ := List.mem_map.1 hl
    obtain ⟨h1, h2⟩ := hb r hr
    obtain ⟨a, c, d⟩ := (split_ok (x := r) (y := "\n") (s := 10) rfl (by decide)).2.2 s hs
    exact ⟨by omega, fun x hx => h2 x (d x hx), a⟩
/-- the parts' lengths, each with one more -/
theorem spl_sum (s : Nat) : ∀ (l acc : List Nat), ((TL.spl [s] 0 acc l).map fun p => p.length + 1).sum = acc.length + l.length + 1
  | [], acc => by
    rw [TL.spl_nil]
    simp
  | c :: l, acc => by
    by_cases h : c = s
    · subst h
      rw [TL.spl_hit (by show (List.take 1 (c :: l) == [c]) = true; simp)]
      show acc.length + 1 + ((TL.spl [c] 0 [] l).map fun p => p.length + 1).sum = _
      rw [spl_sum c l []]
      simp only [List.length_nil, List.length_cons]
      omega
    · rw [TL.spl_miss (by show (List.take 1 (c :: l) == [s]) = false; simp [h]), spl_sum s l (acc ++ [c])]
      simp only [List.length_append, List.length_cons, List.length_nil]
      omega
theorem words_sum (x : Str) : ((Txt.split x " ").map fun p => p.length + 1).sum = x.length + 1 := by
  have z : (Txt.split x " ").map TL.tl = TL.spl [32] 0 [] (TL.tl x) := TL.split_spl x " " (by decide) (TL.kind_ok (by decide +kernel))
  have w := spl_sum 32 (TL.tl x) []
  rw [← z, List.map_map] at w
  have e : ((Txt.split x " ").map ((fun p : List Nat => p.length + 1) ∘ TL.tl)) = (Txt.split x " ").map fun p => p.length + 1 := by
    refine List.map_congr_left fun p _ => ?_
    show p.cps.toList.length + 1 = p.length + 1
    rw [str_len]
  rw [e] at w
  rw [w, str_len x]
  simp
theorem sum_take (f : Str → Nat) (ws : List Str) (i : Nat) : ((ws.take i).map f).sum ≤ (ws.map f).sum := by
  have e : (ws.map f).sum = ((ws.take i).map f).sum + ((ws.drop i).map f).sum := by rw [← List.sum_append, ← List.map_append, List.take_append_drop]
  omega
theorem sum_drop (f : Str → Nat) (ws : List Str) (i : Nat) : ((ws.drop i).map f).sum ≤ (ws.map f).sum := by
  have e : (ws.map f).sum = ((ws.take i).map f).sum + ((ws.drop i).map f).sum := by rw [← List.sum_append, ← List.map_append, List.take_append_drop]
  omega
theorem join_sum (ps : List Str) : (Txt.join " " ps).length ≤ (ps.map fun p => p.length + 1).sum := by
  rw [str_len, join_chars]
  refine Nat.le_trans (joinL_len _) ?_
  rw [List.map_map]
  have e : (ps.map ((fun p : List Nat => p.length + (TL.tl (" " : Str)).length) ∘ TL.tl)) = ps.map fun p => p.length + 1 := by
    refine List.map_congr_left fun p _ => ?_
    show p.cps.toList.length + 1 = p.length + 1
    rw [str_len]
  rw [e]
  exact Nat.le_refl _
theorem count_no {s : Str} (h : 10 ∉ s.cps.toList) : s.cps.toList.count 10 = 0 := List.count_eq_zero.2 h
theorem join_count (ps : List Str) : (Txt.join " " ps).cps.toList.count 10 ≤ (ps.map fun p => p.cps.toList.count 10).sum := by
  rw [join_chars]
  refine Nat.le_trans joinL_count ?_
  rw [List.map_map]
  have e : (TL.tl (" " : Str)).count 10 = 0 := by decide +kernel
  rw [e, Nat.mul_zero]
  exact Nat.le_refl _
theorem counts_no {ps : List Str} (h : ∀ p ∈ ps, 10 ∉ p.cps.toList) : (ps.map fun p => p.cps.toList.count 10).sum = 0 := by
  induction ps with
  | nil => rfl
  | cons p ps ih =>
    rw [List.map_cons, List.sum_cons, count_no (h p List.mem_cons_self), ih fun q hq => h q (List.mem_cons_of_mem _ hq)]
/-- a word that may be put in -/
structure WordOk (b : Nat) (s : Str) : Prop where
  len : s.length ≤ b
  sign : ∀ c ∈ s.cps.toList, c < 0x110000
  few : s.cps.toList.count 10 ≤ 10
/-- a row that may stand among the others: long, some line feeds -/
structure NewRow (b : Nat) (s : Str) : Prop where
  len : s.length ≤ b
  sign : ∀ c ∈ s.cps.toList, c < 0x110000
  few : s.cps.toList.count 10 ≤ 20
theorem RowOk.new {b b' : Nat} {s : Str} (h : RowOk b s) (hb : b ≤ b') : NewRow b' s := ⟨Nat.le_trans h.len hb, h.sign, by rw [count_no h.line]; exact Nat.zero_le _⟩
/-- words before and behind, with a word between or none -/
theorem new_join {L : Nat} {x : Str} {as ms bs : List Str} (hx : RowOk L x) (ha : ∃ i, as = (Txt.split x " ").take i) (hb : ∃ i, bs = (Txt.split x " ").drop i) (hm : ms.length ≤ 1) (hw : ∀ w ∈ ms, WordOk (L + 10) w) : NewRow (3 * L + 20) (Txt.join " " (as ++ ms ++ bs)) := by
  obtain ⟨i, rfl⟩ := ha
  obtain ⟨j, rfl⟩ := hb
  have ws := words_sum x
  have h1 := sum_take (fun p => p.length + 1) (Txt.split x " ") i
  have h2 := sum_drop (fun p => p.length + 1) (Txt.split x " ") j
  have hl := hx.len
  have sp := (split_ok (x := x) (y := " ") (s := 32) rfl (by decide)).2.2
  have line : ∀ p ∈ Txt.split x " ", 10 ∉ p.cps.toList := fun p hp z => hx.line ((sp p hp).2.2 10 z)
  have hms : (ms.map fun p => p.length + 1).sum ≤ L + 11 ∧ (ms.map fun p => p.cps.toList.count 10).sum ≤ 10 := by
    match ms, hm, hw with
    | [], _, _ => exact ⟨Nat.zero_le _, Nat.zero_le _⟩
    | [w], _, hw =>
      have a := hw w List.mem_cons_self
      have := a.len
      have := a.few
      simp only [List.map, List.sum_cons, List.sum_nil]
      omega
  refine ⟨?_, fun c hc => ?_, ?_⟩
  · refine Nat.le_trans (join_sum _) ?_
    rw [List.map_append, List.map_append, List.sum_append, List.sum_append]
    omega
  · rw [join_chars] at hc
    rcases mem_joinL hc with hc | ⟨p, hp, hc⟩
    · exact (by decide +kernel : ∀ c ∈ TL.tl (" " : Str), c < 0x110000) c hc
    · obtain ⟨s, hs, rfl⟩ := List.mem_map.1 hp
      rcases List.mem_append.1 hs with hs | hs
      · rcases List.mem_append.1 hs with hs | hs
        · exact hx.sign c ((sp s (List.mem_of_mem_take hs)).2.2 c hc)
        · exact (hw s hs).sign c hc
      · exact hx.sign c ((sp s (List.mem_of_mem_drop hs)).2.2 c hc)
  · refine Nat.le_trans (join_count _) ?_
    rw [List.map_append, List.map_append, List.sum_append, List.sum_append, counts_no fun p hp => line p (List.mem_of_mem_take hp), counts_no fun p hp => line p (List.mem_of_mem_drop hp)]
    omega
/-- rows with one new among them -/
theorem rows_one {L m : Nat} {as bs : List Str} {r : Str} (ha : ∀ s ∈ as, RowOk L s) (hb : ∀ s ∈ bs, RowOk L s) (hr : NewRow (3 * L + 20) r) (hl : as.length + bs.length ≤ m) : as ++ [r] ++ bs ≠ [] ∧ (as ++ [r] ++ bs).length ≤ m + 1 ∧ (∀ s ∈ as ++ [r] ++ bs, s.length ≤ 3 * L + 20 ∧ ∀ c ∈ s.cps.toList, c < 0x110000) ∧ ((as ++ [r] ++ bs).map fun s => s.cps.toList.count 10).sum ≤ 20 := by
  refine ⟨by simp, by rw [List.length_append, List.length_append, List.length_singleton]; omega, fun s hs => ?_, ?_⟩
  · rcases List.mem_append.1 hs with hs | hs
    · rcases List.mem_append.1 hs with hs | hs
      · exact ⟨by have := (ha s hs).len; omega, (ha s hs).sign⟩
      · rw [List.mem_singleton.1 hs]; exact ⟨hr.len, hr.sign⟩
    · exact ⟨by have := (hb s hs).len; omega, (hb s hs).sign⟩
  · rw [List.map_append, List.map_append, List.sum_append, List.sum_append, counts_no fun s hs => (ha s hs).line, counts_no fun s hs => (hb s hs).line]
    have := hr.few
    simp only [List.map, List.sum_cons, List.sum_nil]
    omega
/-- what the rows come to -/
def RowsMid (L m : Nat) (rows : List Str) : Prop := rows ≠ [] ∧ rows.length ≤ m + 1 ∧ (∀ s ∈ rows, s.length ≤ 3 * L + 20 ∧ ∀ c ∈ s.cps.toList, c < 0x110000) ∧ (rows.map fun s => s.cps.toList.count 10).sum ≤ 20
theorem set_parts {α : Type} {l : List α} {i : Nat} {x : α} (h : i < l.length) : l.set i x = l.take i ++ [x] ++ l.drop (i + 1) := by
  rw [List.set_eq_take_append_cons_drop, if_pos h]
  simp
def spSpoiltR : Sp := fun vs H Q _ => ∃ (p l : Addr) (rows : List Str) (L m : Nat), vs = [.ref p, .ref l] ∧ Box H p ∧ H l = some (.lst (rows.map V.str)) ∧ l ≠ p ∧ rows ≠ [] ∧ rows.length ≤ m ∧ m ≤ 300 ∧ (1 ≤ L ∧ L ≤ 300) ∧ (∀ r ∈ rows, RowOk L r) ∧
  ∀ (l' : Addr) (rows' : List Str) (H' : Hp), H' l' = some (.lst (rows'.map V.str)) → l' ≠ p → rows' ≠ [] → rows'.length ≤ m + 21 → (∀ r ∈ rows', RowOk (3 * L + 20) r) → But p H H' → Box H' p → Q (.ref l') H'
theorem cutS_take {ws : List Str} {i : Int} (h0 : 0 ≤ i) (h1 : i ≤ ws.length) : cutV (ws.map V.str) none (some i) = (ws.take i.toNat).map V.str := by
  unfold cutV
  have e : i = ((i.toNat : Nat) : Int) := by omega
  rw [e, HT.sIx_nat, HT.sIx_none, List.drop_zero, Nat.sub_zero, List.map_take, List.length_map]
  congr 1
  omega
theorem cutS_drop {ws : List Str} {i : Int} (h0 : 0 ≤ i) (h1 : i ≤ ws.length) : cutV (ws.map V.str) (some i) none = (ws.drop i.toNat).map V.str := by
  unfold cutV
  have e : i = ((i.toNat : Nat) : Int) := by omega
  rw [e, HT.sIx_nat, HT.sIx_none, List.length_map]
  have e2 : min i.toNat ws.length = i.toNat := by omega
  rw [Int.toNat_natCast, e2, List.map_drop]
  exact List.take_of_length_le (by rw [List.length_drop, List.length_map]; exact Nat.le_refl _)
theorem mid_all {L m : Nat} {rows : List Str} (hne : rows ≠ []) (hl : rows.length ≤ m + 1) (h : ∀ s ∈ rows, RowOk L s) : RowsMid L m rows := ⟨hne, hl, fun s hs => ⟨by have := (h s hs).len; omega, (h s hs).sign⟩, by rw [counts_no fun s hs => (h s hs).line]; exact Nat.zero_le _⟩
theorem WordOk.new {L : Nat} {s : Str} (h : WordOk (L + 10) s) : NewRow (3 * L + 20) s := ⟨by have := h.len; omega, h.sign, by have := h.few; omega⟩
theorem app3 (a b : Str) : ((a ++ (" " : Str)) ++ b).cps.toList = a.cps.toList ++ [32] ++ b.cps.toList := by
  show ((a.cps ++ (" " : Str).cps) ++ b.cps).toList = _
  have e : (" " : Str).cps.toList = [32] := by decide +kernel
  rw [Array.toList_append, Array.toList_append, e]
theorem WordOk.two {L : Nat} {s : Str} (h : WordOk (L + 10) s) (hL : 1 ≤ L) : NewRow (3 * L + 20) ((s ++ (" " : Str)) ++ s) := by
  have hl := h.len
  have hf := h.few
  refine ⟨?_, fun c hc => ?_, ?_⟩
  · rw [str_len, app3, List.length_append, List.length_append, List.length_singleton, ← str_len]
    omega
  · rw [app3] at hc
    rcases List.mem_append.1 hc with hc | hc
    · rcases List.mem_append.1 hc with hc | hc
      · exact h.sign c hc
      · rw [List.mem_singleton.1 hc]; decide
    · exact h.sign c hc
  · rw [app3, List.count_append, List.count_append]
    have : List.count 10 [32] = 0 := by decide
    omega
theorem empty_new {b : Nat} : NewRow b "" := ⟨Nat.zero_le _, fun c hc => (nomatch hc), Nat.zero_le _⟩
/-- signs of a replaced text -/
theorem mem_replace {x y z : Str} {c : Nat} (h : c ∈ (Txt.replace x y z).cps.toList) : c ∈ x.cps.toList ∨ c ∈ z.cps.toList := by
  unfold Txt.replace at h
  split at h
  · exact .inl h
  · rw [show ∀ ps : List Str, Builtin.Str.glued z ps = Txt.join z ps from fun _ => rfl, join_chars] at h
    rcases mem_joinL h with h | ⟨p, hp, h⟩
    · exact .inr h
    · obtain ⟨s, hs, rfl⟩ := List.mem_map.1 hp
      unfold Builtin.Str.partsBetween at hs
      obtain ⟨⟨i, j⟩, _, rfl⟩ := List.mem_map.1 hs
      left
      have e := TL.tl_strSub x i j
      rw [e] at h
      exact List.mem_of_mem_drop (List.mem_of_mem_take h)
theorem repl_new {L : Nat} {r : Str} (h : RowOk L r) (hL : 1 ≤ L) : NewRow (3 * L + 20) (Txt.replace r " " "  ") := by
  have hl := h.len
  have z := TK.replace_len r " " "  "
  have e : ("  " : Str).length = 2 := rfl
  rw [e] at z
  refine ⟨by omega, fun c hc => ?_, ?_⟩
  · rcases mem_replace hc with hc | hc
    · exact h.sign c hc
    · exact (by decide +kernel : ∀ c ∈ ("  " : Str).cps.toList, c < 0x110000) c hc
  · rw [count_no fun hc => ?_]
    · exact Nat.zero_le _
    · rcases mem_replace hc with hc | hc
      · exact h.line hc
      · revert hc
        decide +kernel
theorem blank_new {L : Nat} {r : Str} (h : RowOk L r) : NewRow (3 * L + 20) ((" " : Str) ++ r) ∧ NewRow (3 * L + 20) (r ++ (" " : Str)) := by
  have hl := h.len
  have e : (" " : Str).cps.toList = [32] := by decide +kernel
  have e1 : ((" " : Str) ++ r).cps.toList = [32] ++ r.cps.toList := by
    show ((" " : Str).cps ++ r.cps).toList = _
    rw [Array.toList_append, e]
  have e2 : (r ++ (" " : Str)).cps.toList = r.cps.toList ++ [32] := by
    show (r.cps ++ (" " : Str).cps).toList = _
    rw [Array.toList_append, e]
  have e3 : List.count 10 [32] = 0 := by decide
  constructor
  · refine ⟨by rw [str_len, e1, List.length_append, ← str_len]; show 1 + r.length ≤ _; omega, fun c hc => ?_, by rw [e1, List.count_append, count_no h.line, e3]; exact Nat.zero_le _⟩
    rw [e1] at hc
    rcases List.mem_append.1 hc with hc | hc
    · rw [List.mem_singleton.1 hc]; decide
    · exact h.sign c hc
  · refine ⟨by rw [str_len, e2, List.length_append, ← str_len]; show r.length + 1 ≤ _; omega, fun c hc => ?_, by rw [e2, List.count_append, count_no h.line, e3]; exact Nat.zero_le _⟩
    rw [e2] at hc
    rcases List.mem_append.1 hc with hc | hc
    · exact h.sign c hc
    · rw [List.mem_singleton.1 hc]; decide
theorem map_erase {α β : Type} (f : α → β) : ∀ (l : List α) (i : Nat), (l.map f).eraseIdx i = (l.eraseIdx i).map f
  | [], _ => rfl
  | _ :: _, 0 => rfl
  | a :: l, i + 1 => by
    show f a :: (l.map f).eraseIdx i = f a :: (l.eraseIdx i).map f
    rw [map_erase f l i]
end Bk

set_option Elab.async false
set_option linter.all false
set_option maxRecDepth 100000
set_option maxHeartbeats 4000000
/-! Bk25: a wood that is looked at and let by; what a text of a wood comes to. -/
namespace Bk
open PySem PySem.Spec PyProof.Rows L2
def namesW (w : Wd) : List Str := (w.map fun k => k.2.map Prod.fst).flatten
theorem namesW_cons (k : Str × List Mk) (w : Wd) : namesW (k :: w) = k.2.map Prod.fst ++ namesW w := by
  unfold namesW
  rw [List.map_cons, List.flatten_cons]
theorem tab_namesW : ∀ (w : Wd) (n : Nat), (tabFrom n w).map (fun e => e.2.1) = namesW w
  | [], _ => rfl
  | k :: w, n => by
    rw [namesW_cons]
    show (k.2.map (fun m => (n, m)) ++ tabFrom (n + 1) w).map (fun e => e.2.1) = _
    rw [List.map_append, tab_namesW w (n + 1), List.map_map]
    rfl
theorem kinds_none : ∀ {w : Wd} {ks : List Str}, dueKinds ks w = none → ks.Nodup → (∀ k ∈ w, isName k.1 = true) ∧ (ks ++ w.map Prod.fst).Nodup
  | [], ks, _, nd => ⟨fun _ h => (nomatch h), by rw [List.map_nil, List.append_nil]; exact nd⟩
  | k :: w, ks, h, nd => by
    unfold dueKinds at h
    split at h
    · cases h
    rename_i h1
    split at h
    · cases h
    rename_i h2
    have nd2 : (ks ++ [k.1]).Nodup := by
      rw [List.nodup_append]
      refine ⟨nd, by simp, fun a ha b hb e => ?_⟩
      rw [List.mem_singleton.1 hb] at e
      subst e
      exact h2 ha
    obtain ⟨a, b⟩ := kinds_none h nd2
    refine ⟨fun k' hk' => ?_, by rw [List.append_assoc] at b; exact b⟩
    rcases List.mem_cons.1 hk' with rfl | hk'
    · exact Bool.not_eq_false _ ▸ h1
    · exact a k' hk'
theorem makers_none {ks : List Str} : ∀ {ms : List Mk} {seen : List Str}, dueMakers ks seen ms = none → seen.Nodup → (∀ m ∈ ms, isName m.1 = true ∧ m.2.length ≤ 2 ∧ ∀ s ∈ m.2, s ∈ ks) ∧ (seen ++ ms.map Prod.fst).Nodup
  | [], seen, _, nd => ⟨fun _ h => (nomatch h), by rw [List.map_nil, List.append_nil]; exact nd⟩
  | m :: ms, seen, h, nd => by
    unfold dueMakers at h
    split at h
    · cases h
    rename_i h1
    split at h
    · cases h
    rename_i h2
    split at h
    · cases h
    rename_i h3
    split at h
    · cases h
    rename_i h4
    have nd2 : (seen ++ [m.1]).Nodup := by
      rw [List.nodup_append]
      refine ⟨nd, by simp, fun a ha b hb e => ?_⟩
      rw [List.mem_singleton.1 hb] at e
      subst e
      exact h2 ha
    obtain ⟨a, b⟩ := makers_none h nd2
    refine ⟨fun k' hk' => ?_, by rw [List.append_assoc] at b; exact b⟩
    rcases List.mem_cons.1 hk' with rfl | hk'
    · refine ⟨by simpa using h1, by omega, fun s hs => ?_⟩
      by_cases c : s ∈ ks
      · exact c
      · exact absurd ⟨s, hs, c⟩ h4
    · exact a k' hk'
theorem or_none {α : Type} {a b : Option α} (h : a.or b = none) : a = none ∧ b = none := by
  cases a with
  | none => exact ⟨rfl, h⟩
  | some x => cases h
theorem rows_none {ks : List Str} : ∀ {w : Wd} {seen : List Str}, dueRows ks seen w = none → seen.Nodup → (∀ k ∈ w, ∀ m ∈ k.2, isName m.1 = true ∧ m.2.length ≤ 2 ∧ ∀ s ∈ m.2, s ∈ ks) ∧ (seen ++ namesW w).Nodup ∧ (seen ++ namesW w).length ≤ 12
  | [], seen, h, nd => by
    unfold dueRows at h
    split at h
    · cases h
    rename_i h1
    have e : seen ++ namesW [] = seen := List.append_nil _
    rw [e]
    exact ⟨fun _ h => (nomatch h), nd, by omega⟩
  | k :: w, seen, h, nd => by
    unfold dueRows at h
    obtain ⟨h1, h2⟩ := or_none h
    obtain ⟨a, b⟩ := makers_none h1 nd
    obtain ⟨c, d, e⟩ := rows_none h2 b
    rw [namesW_cons]
    rw [List.append_assoc] at d e
    refine ⟨fun k' hk' => ?_, d, e⟩
    rcases List.mem_cons.1 hk' with rfl | hk'
    · exact a
    · exact c k' hk'
theorem wood_of_none {w : Wd} (h : lookDue w = none) : WoodOk w := by
  unfold lookDue at h
  split at h
  · cases h
  rename_i h0
  obtain ⟨h1, h2⟩ := or_none h
  obtain ⟨a, b⟩ := kinds_none h1 List.nodup_nil
  obtain ⟨c, d, e⟩ := rows_none h2 List.nodup_nil
  rw [List.nil_append] at b d e
  refine ⟨by omega, a, b, c, by rw [tab_namesW]; exact d, ?_⟩
  have := congrArg List.length (tab_namesW w 0)
  rw [List.length_map] at this
  omega
theorem sizes_map {α : Type} {f : α → D} {b : Nat} : ∀ {xs : List α}, (∀ x ∈ xs, (f x).size ≤ b) → D.sizes (xs.map f) ≤ xs.length * b
  | [], _ => by simp [D.sizes]
  | x :: xs, h => by
    have a := h x List.mem_cons_self
    have z := sizes_map (f := f) (b := b) (xs := xs) fun y hy => h y (List.mem_cons_of_mem _ hy)
    rw [List.map_cons]
    simp only [D.sizes]
    rw [List.length_cons, Nat.succ_mul]
    omega
theorem wood_size {w : Wd} (ok : WoodOk w) : (woodD w).size ≤ 1000 := by
  have hk : ∀ k ∈ w, (kindD k).size ≤ 100 := fun k hk => by
    obtain ⟨i, hi⟩ := List.mem_iff_getElem?.1 hk
    have hl : k.2.length ≤ 12 := by
      have := ok.many
      rw [tab_split w 0 i k hi, List.length_append, List.length_append, List.length_map] at this
      omega
    have hm : ∀ m ∈ k.2, (mkD m).size ≤ 5 := fun m hm => by
      have z := (ok.mkr k hk m hm).2.1
      have e : D.sizes (m.2.map D.str) ≤ m.2.length * 1 := sizes_map (f := D.str) fun s _ => by simp only [D.size]; exact Nat.le_refl _
      unfold mkD partsD
      simp only [D.size, D.sizes]
      omega
    have e := sizes_map hm
    have : k.2.length * 5 ≤ 12 * 5 := Nat.mul_le_mul_right _ hl
    unfold kindD
    simp only [D.size, D.sizes]
    omega
  have e := sizes_map hk
  have : w.length * 100 ≤ 4 * 100 := Nat.mul_le_mul_right _ ok.kinds.2
  unfold woodD
  simp only [D.size]
  omega
theorem dueW_fits (t : Str) : (dueW t).hard = true ∧ (dueW t).size ≤ 400000 := by
  unfold dueW
  split
  · exact ⟨rfl, by simp only [D.size, D.sizes]; omega⟩
  · rename_i w _
    split
    · rename_i hn
      have ok := wood_of_none hn
      have z := wood_size ok
      refine ⟨?_, by simp only [D.size, D.sizes]; omega⟩
      show (true && (D.hard (woodD w) && true)) = true
      rw [wood_hard]
      rfl
    · exact ⟨rfl, by simp only [D.size, D.sizes]; omega⟩
/-- a text of such rows -/
theorem rows_textB {b : Nat} {rows : List Str} (hne : rows ≠ []) (h : ∀ r ∈ rows, RowOk b r) (hl : rows.length ≤ 400) (hb : b ≤ 1000) : TextB (Txt.join "\n" rows) := by
  have e : Txt.split (Txt.join "\n" rows) "\n" = rows := by
    rw [split_joined hne]
    clear hne hl
    induction rows with
    | nil => rfl
    | cons r rs ih =>
      rw [List.map_cons, List.flatten_cons, split_row (h r List.mem_cons_self).line, ih fun q hq => h q (List.mem_cons_of_mem _ hq)]
      rfl
  refine ⟨?_, by rw [e]; exact hl, fun r hr => ?_⟩
  · refine Nat.le_trans (join_len (b := 1000) fun s hs => Nat.le_trans (h s hs).len hb) ?_
    have e1 : ("\n" : Str).length = 1 := rfl
    rw [e1]
    have : rows.length * (1000 + 1) ≤ 400 * 1001 := Nat.mul_le_mul hl (Nat.le_refl _)
    omega
  · rw [e] at hr
    exact ⟨Nat.le_trans (h r hr).len hb, (h r hr).sign⟩
theorem none_textB : TextB "" := by
  have e : Txt.split "" "\n" = [("" : Str)] := split_row (r := "") (by decide +kernel)
  refine ⟨Nat.zero_le _, by rw [e]; decide, fun r hr => ?_⟩
  rw [e] at hr
  rw [List.mem_singleton.1 hr]
  exact ⟨Nat.zero_le _, fun c hc => nomatch hc⟩
/-- how long the rows are behind so many turns -/
def longR : Nat → Nat
  | 0 => 21
  | j + 1 => 3 * longR j + 20
theorem longR_lt {j : Nat} (h : j < 3) : 1 ≤ longR j ∧ longR j ≤ 300 := by
  have : j = 0 ∨ j = 1 ∨ j = 2 := by omega
  rcases this with rfl | rfl | rfl <;> exact ⟨by decide, by decide⟩
theorem longR_le {j : Nat} (h : j ≤ 3) : longR j ≤ 827 := by
  have : j = 0 ∨ j = 1 ∨ j = 2 ∨ j = 3 := by omega
  rcases this with rfl | rfl | rfl | rfl <;> decide
theorem rowsW_ne {w : Wd} (h : WoodOk w) : rowsW w ≠ [] := by
  intro z
  have a := rowsW_count w 0
  rw [z] at a
  have := h.kinds
  simp only [List.length_nil] at a
  omega
end Bk

set_option Elab.async false
set_option linter.all false
set_option maxRecDepth 100000
set_option maxHeartbeats 4000000
/-! Bk26: zip(a, b) of lists and tuples of one length, of whichever sort each. -/
namespace Bk
open PySem PySem.Spec PyProof.Rows L2
section
variable {prog : Program} {w : World} {A : Around} {E : Value → Shared → Prop} {s : Shared}
theorem nz_item {k1 k2 : Bool} {z TI TO i1 i2 l1 l2 : Addr} {i : Nat} {xs ys : Array Value} {x y a b : Value} {Q : Value → Shared → Prop} (D : ZipApart z TI TO i1 i2 l1 l2)
    (hz : IsZip s.heap z TI TO .none) (hTI : IsPair s.heap TI (.ref i1) (.ref i2)) (hTO : IsPair s.heap TO a b) (h1 : SIt s.heap k1 i1 l1 i xs) (h2 : SIt s.heap k2 i2 l2 i ys) (hx : xs[i]? = some x) (hy : ys[i]? = some y)
    (hQ : ∀ h', IsZip h' z TI TO (rawInt s.heap.objs.size) → IsPair h' TO x y → SIt h' k1 i1 l1 (i + 1) xs → SIt h' k2 i2 l2 (i + 1) ys → IsPair h' s.heap.objs.size x y → h'.objs.size = s.heap.objs.size + 1 →
      (∀ c o, c ≠ z → c ≠ TO → c ≠ i1 → c ≠ i2 → s.heap.get? c = some o → h'.get? c = some o) → Q (.ref s.heap.objs.size) { s with heap := h' }) :
    wpAny (model prog w) A (Builtin.«zip.__next__» ⟨[.ref z], []⟩) (fun fin s' => ∃ v, fin = .done (.ret v) ∧ Q v s') E s := by
  show wpAny _ _ (field (.ref z) 2 >>= _) _ _ _
  refine wpAny_bind (wpAny_field hz rfl (x := .bool false) rfl ?_)
  show wpAny _ _ (field (.ref z) 3 >>= _) _ _ _
  refine wpAny_bind (wpAny_field hz rfl (x := .ref TI) rfl ?_)
  refine wpAny_bind (wpAny_seqItems hTI rfl ?_)
  show wpAny _ _ (Builtin.SmallTypes.ownedTupleIsFree (.ref z) >>= _) _ _ _
  refine wpAny_bind ?_
  unfold Builtin.SmallTypes.ownedTupleIsFree
  refine wpAny_bind (wpAny_field hz rfl (x := .none) rfl (wpAny_pure ?_))
  simp only [if_true]
  refine wpAny_bind (wpAny_rule ?_)
  refine wpAny_bind (wpAny_field hz rfl (x := .ref TO) rfl ?_)
  refine wpAny_bind (wpAny_setField_rec hz (by simp) fun g1 hz1 hs1 => ?_)
  replace hz1 : IsZip g1 z TI TO .ellipsis := hz1
  refine wpAny_bind ?_
  simp only [List.zipIdx_cons, List.zipIdx_nil, List.forIn_cons, List.forIn_nil]
  refine wpAny_bind (wpAny_bind (wpAny_onRaise ?_))
  show wpAny _ _ (Builtin.SmallTypes.nextOf (.ref i1) >>= _) _ _ _
  refine wpAny_bind (sit_item (h1.keep (fun o e => hs1.extBut _ _ D.i1z e) (fun o e => hs1.extBut _ _ D.l1z e)) D.l1i1 hx fun g2 h12 hs2 => wpAny_pure ?_)
  have hTO2 : IsPair g2 TO a b := hs2.extBut _ _ D.TOi1 (hs1.extBut _ _ D.TOz hTO)
  refine wpAny_bind (wpAny_seqItems hTO2 rfl ?_)
  refine wpAny_bind (wpAny_updateSeq_pair hTO2 fun g3 hTO3 hs3 => ?_)
  replace hTO3 : IsPair g3 TO x b := hTO3
  refine wpAny_bind (wpAny_letGo (wpAny_pure ?_))
  refine wpAny_bind (wpAny_bind (wpAny_onRaise ?_))
  show wpAny _ _ (Builtin.SmallTypes.nextOf (.ref i2) >>= _) _ _ _
  refine wpAny_bind (sit_item (h2.keep (fun o e => hs3.extBut _ _ D.TOi2.symm (hs2.extBut _ _ D.i12.symm (hs1.extBut _ _ D.i2z e))) (fun o e => hs3.extBut _ _ D.l2TO (hs2.extBut _ _ D.l2i1 (hs1.extBut _ _ D.l2z e)))) D.l2i2 hy fun g4 h24 hs4 => wpAny_pure ?_)
  have hTO4 : IsPair g4 TO x b := hs4.extBut _ _ D.TOi2 hTO3
  refine wpAny_bind (wpAny_seqItems hTO4 rfl ?_)
  refine wpAny_bind (wpAny_updateSeq_pair hTO4 fun g5 hTO5 hs5 => ?_)
  replace hTO5 : IsPair g5 TO x y := hTO5
  refine wpAny_bind (wpAny_letGo (wpAny_pure (wpAny_pure ?_)))
  refine wpAny_bind (wpAny_seqItems hTO5 rfl ?_)
  refine wpAny_bind (wpAny_newTuple ?_)
  have hsz : g5.objs.size = s.heap.objs.size := by rw [hs5.1, hs4.1, hs3.1, hs2.1, hs1.1]
  have kp : ∀ c o, c ≠ z → c ≠ TO → c ≠ i1 → c ≠ i2 → s.heap.get? c = some o → g5.get? c = some o := fun c o c1 c2 c3 c4 e =>
    hs5.extBut _ _ c2 (hs4.extBut _ _ c4 (hs3.extBut _ _ c2 (hs2.extBut _ _ c3 (hs1.extBut _ _ c1 e))))
  have hz5 : IsZip g5 z TI TO .ellipsis := hs5.extBut _ _ D.TOz.symm (hs4.extBut _ _ D.i2z.symm (hs3.extBut _ _ D.TOz.symm (hs2.extBut _ _ D.i1z.symm hz1)))
  have h15 : SIt g5 k1 i1 l1 (i + 1) xs := h12.keep (fun o e => hs5.extBut _ _ D.TOi1.symm (hs4.extBut _ _ D.i12 (hs3.extBut _ _ D.TOi1.symm e))) (fun o e => hs5.extBut _ _ D.l1TO (hs4.extBut _ _ D.l1i2 (hs3.extBut _ _ D.l1TO e)))
  have h25 : SIt g5 k2 i2 l2 (i + 1) ys := h24.keep (fun o e => hs5.extBut _ _ D.TOi2.symm e) (fun o e => hs5.extBut _ _ D.l2TO e)
  have hzlt : z < g5.objs.size := Heap.lt_size hz5
  show wpAny _ _ (Builtin.SmallTypes.ownedTupleHandOut (.ref z) (.ref g5.objs.size) >>= _) _ _ _
  refine wpAny_bind ?_
  unfold Builtin.SmallTypes.ownedTupleHandOut
  have hz6 : IsZip (g5.push { cls := .type "tuple", data := .seq #[x, y] }) z TI TO .ellipsis := Heap.get?_push_of_some _ hz5
  refine wpAny_bind (wpAny_setField_rec hz6 (by simp) fun g7 hz7 hs7 => ?_)
  replace hz7 : IsZip g7 z TI TO (rawInt g5.objs.size) := hz7
  refine wpAny_setField_rec hz7 (by simp) fun g8 hz8 hs8 => ?_
  replace hz8 : IsZip g8 z TI TO (rawInt g5.objs.size) := hz8
  have up : ∀ c o, c ≠ z → g5.get? c = some o → g8.get? c = some o := fun c o c1 e => hs8.extBut _ _ c1 (hs7.extBut _ _ c1 (Heap.get?_push_of_some _ e))
  have hT8 : IsPair g8 g5.objs.size x y := hs8.extBut _ _ (Nat.ne_of_gt hzlt) (hs7.extBut _ _ (Nat.ne_of_gt hzlt) (Heap.get?_push_size _ rfl))
  have z8 : g8.objs.size = g5.objs.size + 1 := by rw [hs8.1, hs7.1, Heap.size_push]
  rw [hsz] at hz8 hT8 z8
  refine wpAny_pure ⟨_, rfl, ?_⟩
  show Q (.ref g5.objs.size) _
  rw [hsz]
  exact hQ g8 hz8 (up _ _ D.TOz hTO5) (h15.keep (fun o e => up _ o D.i1z e) (fun o e => up _ o D.l1z e)) (h25.keep (fun o e => up _ o D.i2z e) (fun o e => up _ o D.l2z e)) hT8 z8 fun c o c1 c2 c3 c4 e => up c o c1 (kp c o c1 c2 c3 c4 e)
theorem nz_end {k1 k2 : Bool} {z TI TO i1 i2 l1 l2 : Addr} {i : Nat} {xs ys : Array Value} {a b : Value} {Q : Fin → Shared → Prop} (hh : A.handled = none) (D : ZipApart z TI TO i1 i2 l1 l2)
    (hz : IsZip s.heap z TI TO .none) (hTI : IsPair s.heap TI (.ref i1) (.ref i2)) (hTO : IsPair s.heap TO a b) (h1 : SIt s.heap k1 i1 l1 i xs) (h2 : SIt s.heap k2 i2 l2 i ys) (hx : xs[i]? = none) (hy : ys[i]? = none)
    (hE : ∀ h' e, (∀ c o, c ≠ z → c ≠ TO → c ≠ i1 → c ≠ i2 → s.heap.get? c = some o → h'.get? c = some o) → (∃ o, h'.get? e = some o ∧ o.cls = .type "StopIteration") → E (.ref e) { s with heap := h' }) :
    wpAny (model prog w) A (Builtin.«zip.__next__» ⟨[.ref z], []⟩) Q E s := by
  show wpAny _ _ (field (.ref z) 2 >>= _) _ _ _
  refine wpAny_bind (wpAny_field hz rfl (x := .bool false) rfl ?_)
  show wpAny _ _ (field (.ref z) 3 >>= _) _ _ _
  refine wpAny_bind (wpAny_field hz rfl (x := .ref TI) rfl ?_)
  refine wpAny_bind (wpAny_seqItems hTI rfl ?_)
  show wpAny _ _ (Builtin.SmallTypes.ownedTupleIsFree (.ref z) >>= _) _ _ _
  refine wpAny_bind ?_
  unfold Builtin.SmallTypes.ownedTupleIsFree
  refine wpAny_bind (wpAny_field hz rfl (x := .none) rfl (wpAny_pure ?_))
  simp only [if_true]
  refine wpAny_bind (wpAny_rule ?_)
  refine wpAny_bind (wpAny_field hz rfl (x := .ref TO) rfl ?_)
  refine wpAny_bind (wpAny_setField_rec hz (by simp) fun g1 hz1 hs1 => ?_)
  replace hz1 : IsZip g1 z TI TO .ellipsis := hz1
  refine wpAny_bind ?_
  simp only [List.zipIdx_cons, List.zipIdx_nil, List.forIn_cons, List.forIn_nil]
  refine wpAny_bind (wpAny_bind (wpAny_onRaise ?_))
  show wpAny _ _ (Builtin.SmallTypes.nextOf (.ref i1) >>= _) _ _ _
  refine wpAny_bind (sit_end hh (h1.keep (fun o e => hs1.extBut _ _ D.i1z e) (fun o e => hs1.extBut _ _ D.l1z e)) hx fun g2 e hs2 he => ?_)
  obtain ⟨oe, hoe, hce⟩ := he
  have hz2 : IsZip g2 z TI TO .ellipsis := hs2 _ _ D.i1z.symm hz1
  have hez : e ≠ z := fun x => by subst x; rw [hz2] at hoe; cases hoe; simp at hce
  exact wpAny_setField_rec hz2 (by simp) fun g3 _ hs3 => hE g3 e (fun c o c1 _ c3 _ x => hs3.extBut _ _ c1 (hs2 _ _ c3 (hs1.extBut _ _ c1 x))) ⟨oe, hs3.extBut _ _ hez hoe, hce⟩
theorem nz_nextItem {k1 k2 : Bool} {z TI TO i1 i2 l1 l2 : Addr} {i : Nat} {xs ys : Array Value} {x y a b : Value} {Q : Option Value → Shared → Prop} (D : ZipApart z TI TO i1 i2 l1 l2)
    (hz : IsZip s.heap z TI TO .none) (hTI : IsPair s.heap TI (.ref i1) (.ref i2)) (hTO : IsPair s.heap TO a b) (h1 : SIt s.heap k1 i1 l1 i xs) (h2 : SIt s.heap k2 i2 l2 i ys) (hx : xs[i]? = some x) (hy : ys[i]? = some y)
    (hQ : ∀ h', IsZip h' z TI TO (rawInt s.heap.objs.size) → IsPair h' TO x y → SIt h' k1 i1 l1 (i + 1) xs → SIt h' k2 i2 l2 (i + 1) ys → IsPair h' s.heap.objs.size x y → h'.objs.size = s.heap.objs.size + 1 →
      (∀ c o, c ≠ z → c ≠ TO → c ≠ i1 → c ≠ i2 → s.heap.get? c = some o → h'.get? c = some o) → Q (some (.ref s.heap.objs.size)) { s with heap := h' }) : wpAny (model prog w) A (pyNext (.ref z)) Q E s := by
  have hT : s.TypeIs (.ref z) "zip" := ⟨_, hz, rfl⟩
  unfold pyNext
  exact wpAny_bind (wpAny_attempt (wpAny_callSpecial?_slot (name := Str.ofString "__next__") hT F.slot_zip_next
    (wpAny_call_entry F.slot_zip_next hT F.entry_zip_next (nz_item D hz hTI hTO h1 h2 hx hy fun h' a1 a2 a3 a4 a5 a6 a7 => wpAny_pure (hQ h' a1 a2 a3 a4 a5 a6 a7)) (F.args_zip_next_1 _))))
theorem nz_nextEnd {k1 k2 : Bool} {z TI TO i1 i2 l1 l2 : Addr} {i : Nat} {xs ys : Array Value} {a b : Value} {Q : Option Value → Shared → Prop} (hh : A.handled = none) (D : ZipApart z TI TO i1 i2 l1 l2)
    (hz : IsZip s.heap z TI TO .none) (hTI : IsPair s.heap TI (.ref i1) (.ref i2)) (hTO : IsPair s.heap TO a b) (h1 : SIt s.heap k1 i1 l1 i xs) (h2 : SIt s.heap k2 i2 l2 i ys) (hx : xs[i]? = none) (hy : ys[i]? = none)
    (hQ : ∀ h', (∀ c o, c ≠ z → c ≠ TO → c ≠ i1 → c ≠ i2 → s.heap.get? c = some o → h'.get? c = some o) → Q none { s with heap := h' }) : wpAny (model prog w) A (pyNext (.ref z)) Q E s := by
  have hT : s.TypeIs (.ref z) "zip" := ⟨_, hz, rfl⟩
  unfold pyNext
  refine wpAny_bind (wpAny_attempt (wpAny_callSpecial?_slot (name := Str.ofString "__next__") hT F.slot_zip_next
    (wpAny_call_entry F.slot_zip_next hT F.entry_zip_next (nz_end hh D hz hTI hTO h1 h2 hx hy fun h' e hk he => ?_) (F.args_zip_next_1 _))))
  obtain ⟨o, ho, hc⟩ := he
  refine wpAny_bind (wpAny_isInstance (T := "StopIteration") (b := true) ⟨o, ho, hc⟩ isSubtype_stop ?_)
  exact wpAny_pure (hQ _ hk)
end
/-! ### the turns -/
theorem turn_zipN {P : Program} {w : World} {K : PySem.W.Frag} {elts : List Expr} {kk : Nat} {tpos : Pos} {k1 k2 : Bool} {a b z TI TO i1 i2 : Addr} (D : ZipApart z TI TO i1 i2 a b) :
    Turn P w K (.Tuple elts kk tpos) (ItS K k1 k2 a b) [z, TI, TO, i1, i2] z (fun i h => IsZip h z TI TO .none ∧ IsPair h TI (.ref i1) (.ref i2) ∧ (∃ x y, IsPair h TO x y) ∧ KI h k1 i1 a i ∧ KI h k2 i2 b i) where
  mem := by simp
  obj := fun i h st c hc => by
    obtain ⟨hz, hTI, ⟨x, y, hTO⟩, h1, h2⟩ := st
    obtain ⟨o1, e1, d1⟩ := h1.get
    obtain ⟨o2, e2, d2⟩ := h2.get
    have e' : c = z ∨ c = TI ∨ c = TO ∨ c = i1 ∨ c = i2 := by simpa using hc
    rcases e' with q | q | q | q | q
    · rw [q]; exact ⟨_, hz, fun v q => nomatch q⟩
    · rw [q]; exact ⟨_, hTI, fun v q => nomatch q⟩
    · rw [q]; exact ⟨_, hTO, fun v q => nomatch q⟩
    · rw [q]; exact ⟨o1, e1, d1⟩
    · rw [q]; exact ⟨o2, e2, d2⟩
  keep := fun i h h' st k => by
    obtain ⟨hz, hTI, ⟨x, y, hTO⟩, h1, h2⟩ := st
    exact ⟨k z (by simp) _ hz, k TI (by simp) _ hTI, ⟨x, y, k TO (by simp) _ hTO⟩, h1.at fun o q => k i1 (by simp) o q, h2.at fun o q => k i2 (by simp) o q⟩
  item := by
    intro X hP hw hK hc i pins s σ H E I hf st hg
    subst hP hw hK
    obtain ⟨hz, hTI, ⟨x0, y0, hTO⟩, h1, h2⟩ := st
    obtain ⟨xs, ys, x, y, hqx, hqy, hx, hy⟩ := hg
    obtain ⟨its, rv, p⟩ := sqk_its I hqx
    obtain ⟨its2, rv2, p2⟩ := sqk_its I hqy
    obtain ⟨u, hu, ru⟩ := rv.get hx
    obtain ⟨u2, hu2, ru2⟩ := rv2.get hy
    have hzl : z < s.heap.objs.size := Heap.lt_size hz
    refine nz_nextItem D hz hTI hTO (p h1) (p2 h2) (x := u) (y := u2) (by simpa using hu) (by simpa using hu2) fun h' z' TO' h1' h2' hT hsz hk => ?_
    refine ⟨_, rfl, wpAny_letOwnedTupleGo_zip (s := { s with heap := h' }) z' fun h'' z'' sb => ?_⟩
    have hT2 : h''.get? s.heap.objs.size = some { cls := .type "tuple", data := .seq #[u, u2] } := (sb.2 _ (Nat.ne_of_gt hzl)).trans hT
    have new : ObjOk X.prog X.w (upd H s.heap.objs.size (.tup [x, y])) h'' s.heap.objs.size (.tup [x, y]) :=
      ⟨by show 2 ≤ sizeLine; decide, [u, u2], .cons ru (.cons ru2 .nil), ⟨_, hT2, rfl, _, rfl⟩⟩
    have I1 : Inv X pins σ (upd H s.heap.objs.size (.tup [x, y])) { s with heap := h'' } :=
      I.turnedNew (t' := s.toks) (ch := [z, TI, TO, i1, i2]) (fun c o hb q => (sb.2 c (fun q' => hb (by simp [q']))).trans (hk c o (fun q' => hb (by simp [q'])) (fun q' => hb (by simp [q'])) (fun q' => hb (by simp [q'])) (fun q' => hb (by simp [q'])) q)) hf (Nat.le_refl _) new
    refine ⟨.ref s.heap.objs.size, _, I1, rfl, ⟨_, x, y, rfl, I.hok.fresh (Nat.le_refl _), rfl, fun l hl => by rw [sqk_inj I hl hqx]; exact hx, fun l hl => by rw [sqk_inj I hl hqy]; exact hy⟩, ⟨z'', ?_, ⟨u, u2, ?_⟩, ?_, ?_⟩, fun c hcm => ?_⟩
    · exact (sb.2 _ D.TIz).trans (hk _ _ D.TIz D.TITO D.TIi1 D.TIi2 hTI)
    · exact (sb.2 _ D.TOz).trans TO'
    · exact h1'.ki.at fun o q => (sb.2 _ D.i1z).trans q
    · exact h2'.ki.at fun o q => (sb.2 _ D.i2z).trans q
    · have hlt : c < s.heap.objs.size := by
        have e' : c = z ∨ c = TI ∨ c = TO ∨ c = i1 ∨ c = i2 := by simpa using hcm
        rcases e' with q | q | q | q | q
        · rw [q]; exact hzl
        · rw [q]; exact Heap.lt_size hTI
        · rw [q]; exact Heap.lt_size hTO
        · rw [q]; obtain ⟨_, e1, _⟩ := h1.get; exact Heap.lt_size e1
        · rw [q]; obtain ⟨_, e2, _⟩ := h2.get; exact Heap.lt_size e2
      rw [upd_ne (Nat.ne_of_lt hlt)]
      exact (hf c hcm).1
  done := by
    intro X hP hw hK hc i pins s σ H E I hf st hg
    subst hP hw hK
    obtain ⟨hz, hTI, ⟨x0, y0, hTO⟩, h1, h2⟩ := st
    obtain ⟨xs, ys, hqx, hqy, he1, he2⟩ := hg
    obtain ⟨its, rv, p⟩ := sqk_its I hqx
    obtain ⟨its2, rv2, p2⟩ := sqk_its I hqy
    have l1 := rv.length
    have l2 := rv2.length
    exact nz_nextEnd (I.ok.hd hc) D hz hTI hTO (p h1) (p2 h2) (by simp; omega) (by simp; omega) fun h' hk => ⟨rfl, I.turnedL (t' := s.toks) (ch := [z, TI, TO, i1, i2]) (fun c o hb q => hk c o (fun q' => hb (by simp [q'])) (fun q' => hb (by simp [q'])) (fun q' => hb (by simp [q'])) (fun q' => hb (by simp [q'])) q) hf⟩
  self := fun A i s Q E st h => wpAny_pyIter_zip st.1 h
def iZipN (K : PySem.W.Frag) (ta : TA) : TI := fun σ H R => ta σ H fun vs H1 => ∃ (k1 k2 : Bool) (a b : Addr) (xs ys : List V), vs = [.ref a, .ref b] ∧ SqK K H1 k1 a xs ∧ SqK K H1 k2 b ys ∧ R (ItS K k1 k2 a b) H1
section
variable {X : Cx} {pins : List (Addr × Obj)} {σ : L2.St} {H : Hp} {s : Shared}
theorem sqk_begins {k : Bool} {a : Addr} {xs : List V} (I : Inv X pins σ H s) (h : SqK X.K H k a xs) : ∃ (o : Obj) (H1 : Heap → Prop), Begins (.ref a) o H1 ∧ H1 s.heap ∧ a < s.heap.objs.size ∧ ∀ (h' : Heap) (it : Addr), h'.get? it = some o → KI h' k it a 0 := by
  cases k with
  | true =>
    obtain ⟨i1, v1, p1, _⟩ := I.tuple h
    obtain ⟨o1, ho1, _⟩ := id p1
    exact ⟨_, _, begins_tuple a i1.toArray, (show s.heap.IsTuple a i1.toArray from p1), Heap.lt_size ho1, fun h' it g => (show h'.IsTupleIter it a 0 from ⟨_, g, rfl, rfl⟩)⟩
  | false =>
    obtain ⟨i1, v1, p1, _⟩ := I.list h
    exact ⟨_, _, begins_list a i1.toArray, p1.isList, p1.lt, fun h' it g => (show h'.IsListIter it a 0 from ⟨_, g, rfl, rfl⟩)⟩
end
theorem pi_zipN {X : Cx} {e e2 : Expr} {ta : TA} {p pos tpos : Pos} {elts : List Expr} {kk : Nat} (hg : Gl X "zip") (hm : X.mg "zip" = none) (ha : PA X [e, e2] ta)
    (hs : starEach [e, e2] X.env = (false, eval e X.env) :: starEach [e2] X.env := by rfl) (hpl : (backTo pos (starEach [e2] X.env)).any (·.1) = false := by rfl) :
    PI X (.Tuple elts kk tpos) (.Call (.Name "zip" p) [e, e2] [] pos) (iZipN X.K ta) := by
  refine ⟨fun pins s σ H R I h => ?_⟩
  refine Call_ (ld_blt I hg hm PyProof.Rows.boot_zip (PyProof.Rows.callWith_type1 (thn (ha.run pos pins s σ H _ I h) fun us s2 ⟨vs, H2, I2, r1, q1⟩ => ?_) hs hpl))
  obtain ⟨k1, k2, a, b, xs, ys, ex, hqx, hqy, q⟩ := q1
  subst ex
  cases r1 with
  | cons r rr =>
    cases rr with
    | cons r' rr =>
      cases rr
      cases r
      cases r'
      have fresh5 : ∀ c, c ∈ [s2.heap.objs.size + 4, s2.heap.objs.size + 2, s2.heap.objs.size + 3, s2.heap.objs.size, s2.heap.objs.size + 1] → FpOk X pins H2 c := fun c hcm => by
        have e' : c = s2.heap.objs.size + 4 ∨ c = s2.heap.objs.size + 2 ∨ c = s2.heap.objs.size + 3 ∨ c = s2.heap.objs.size ∨ c = s2.heap.objs.size + 1 := by simpa using hcm
        have hle : s2.heap.objs.size ≤ c := by omega
        exact I2.fpOk hle (I2.hok.fresh hle)
      obtain ⟨o1, P1, B1, w1, l1, g1'⟩ := sqk_begins I2 hqx
      obtain ⟨o2, P2, B2, w2, l2, g2'⟩ := sqk_begins I2 hqy
      refine zip_begins2 B1 B2 w1 w2 fun h' hz hTI hTO g1 g2 hsz hk => wpAny_pyIter_zip hz ?_
      exact ⟨s2.heap.objs.size + 4, [s2.heap.objs.size + 4, s2.heap.objs.size + 2, s2.heap.objs.size + 3, s2.heap.objs.size, s2.heap.objs.size + 1], _, _, H2, rfl, I2.kept (t' := s2.toks) hk, turn_zipN (k1 := k1) (k2 := k2) (PySem.W.ktu_apart s2.heap.objs.size a b l1 l2), ⟨hz, hTI, ⟨_, _, hTO⟩, g1' _ _ g1, g2' _ _ g2⟩, fresh5, q⟩
end Bk

set_option Elab.async false
set_option linter.all false
set_option maxRecDepth 100000
set_option maxHeartbeats 4000000
/-! Bk27: readers as data: counts and rules; what is amiss in one. -/
namespace Bk
open PySem PySem.Spec PyProof.Rows L2
abbrev Fx := Int × Int
abbrev Tm := Fx × List (Option Int)
abbrev Sm := List Tm
abbrev Rl := List Sm
abbrev Rd := List Int × List Rl
def fxD (f : Fx) : D := .tup [.int f.1, .int f.2]
def bxD : Option Int → D
  | none => .non
  | some i => .int i
def bxV : Option Int → V
  | none => .non
  | some i => .int i
def tmD (t : Tm) : D := .tup [fxD t.1, .tup (t.2.map bxD)]
def smD (s : Sm) : D := .tup (s.map tmD)
def rlD (r : Rl) : D := .tup (r.map smD)
def rdD (r : Rd) : D := .tup [.tup (r.1.map D.int), .tup (r.2.map rlD)]
theorem Reps.boxes {H : Hp} : ∀ {bs : List (Option Int)} {vs : List V}, Reps H (bs.map bxD) vs → vs = bs.map bxV
  | [], vs, h => by simpa only [List.map, Reps] using h
  | b :: bs, vs, h => by
    rw [List.map_cons] at h
    obtain ⟨v, r, rfl, hv, hr⟩ := h
    rw [Reps.boxes hr]
    cases b with
    | none =>
      have : v = .non := by simpa only [bxD, Rep] using hv
      rw [this]
      rfl
    | some i =>
      have : v = .int i := by simpa only [bxD, Rep] using hv
      rw [this]
      rfl
theorem boxesReps {H : Hp} : ∀ bs : List (Option Int), Reps H (bs.map bxD) (bs.map bxV)
  | [] => by simp only [List.map, Reps]
  | b :: bs => by
    refine ⟨_, _, rfl, ?_, boxesReps bs⟩
    cases b with
    | none => exact Rep.n
    | some i => exact Rep.i i
theorem Reps.ints {H : Hp} : ∀ {is : List Int} {vs : List V}, Reps H (is.map D.int) vs → vs = is.map V.int
  | [], vs, h => by simpa only [List.map, Reps] using h
  | i :: is, vs, h => by
    rw [List.map_cons] at h
    obtain ⟨v, r, rfl, hv, hr⟩ := h
    rw [Reps.ints hr]
    have : v = .int i := by simpa only [Rep] using hv
    rw [this]
    rfl
theorem Reps.two {H : Hp} {d e : D} {vs : List V} (h : Reps H [d, e] vs) : ∃ x y, vs = [x, y] ∧ Rep H d x ∧ Rep H e y := by
  obtain ⟨x, r, rfl, hx, h⟩ := h
  obtain ⟨y, r, rfl, hy, h⟩ := h
  have : r = [] := by simpa only [Reps] using h
  subst this
  exact ⟨x, y, rfl, hx, hy⟩
theorem fx_at {H : Hp} {f : Fx} {v : V} (h : Rep H (fxD f) v) : ∃ p, v = .ref p ∧ H p = some (.tup [.int f.1, .int f.2]) := by
  obtain ⟨a, xs, rfl, ha, rs⟩ := Rep.tupI h
  obtain ⟨x, y, rfl, hx, hy⟩ := rs.two
  have e1 : x = .int f.1 := by simpa only [Rep] using hx
  have e2 : y = .int f.2 := by simpa only [Rep] using hy
  subst e1 e2
  exact ⟨a, rfl, ha⟩
theorem Rep.fx {H : Hp} {f : Fx} {p : Addr} (h : H p = some (.tup [.int f.1, .int f.2])) : Rep H (fxD f) (.ref p) := Rep.two h (Rep.i _) (Rep.i _)
theorem tm_at {H : Hp} {t : Tm} {v : V} (h : Rep H (tmD t) v) : ∃ a p q, v = .ref a ∧ H a = some (.tup [.ref p, .ref q]) ∧ H p = some (.tup [.int t.1.1, .int t.1.2]) ∧ H q = some (.tup (t.2.map bxV)) := by
  obtain ⟨a, xs, rfl, ha, rs⟩ := Rep.tupI h
  obtain ⟨x, y, rfl, hx, hy⟩ := rs.two
  obtain ⟨p, rfl, hp⟩ := fx_at hx
  obtain ⟨q, ys, rfl, hq, rq⟩ := Rep.tupI hy
  rw [rq.boxes] at hq
  exact ⟨a, p, q, rfl, ha, hp, hq⟩
theorem Rep.tm {H : Hp} {t : Tm} {a p q : Addr} (ha : H a = some (.tup [.ref p, .ref q])) (hp : H p = some (.tup [.int t.1.1, .int t.1.2])) (hq : H q = some (.tup (t.2.map bxV))) : Rep H (tmD t) (.ref a) :=
  Rep.two ha (Rep.fx hp) (by simp only [Rep]; exact ⟨q, _, rfl, hq, boxesReps _⟩)
theorem Rep.tupO {H : Hp} {ds : List D} {a : Addr} {xs : List V} (ha : H a = some (.tup xs)) (h : Reps H ds xs) : Rep H (.tup ds) (.ref a) := by
  simp only [Rep]
  exact ⟨a, xs, rfl, ha, h⟩
theorem rd_at {H : Hp} {r : Rd} {v : V} (h : Rep H (rdD r) v) : ∃ a c b xs, v = .ref a ∧ H a = some (.tup [.ref c, .ref b]) ∧ H c = some (.tup (r.1.map V.int)) ∧ H b = some (.tup xs) ∧ Reps H (r.2.map rlD) xs := by
  obtain ⟨a, ys, rfl, ha, rs⟩ := Rep.tupI h
  obtain ⟨x, y, rfl, hx, hy⟩ := rs.two
  obtain ⟨c, zs, rfl, hc, rc⟩ := Rep.tupI hx
  obtain ⟨b, xs, rfl, hb, rb⟩ := Rep.tupI hy
  rw [rc.ints] at hc
  exact ⟨a, c, b, xs, rfl, ha, hc, hb, rb⟩
theorem Rep.rd {H : Hp} {r : Rd} {a c b : Addr} {xs : List V} (ha : H a = some (.tup [.ref c, .ref b])) (hc : H c = some (.tup (r.1.map V.int))) (hb : H b = some (.tup xs)) (rb : Reps H (r.2.map rlD) xs) : Rep H (rdD r) (.ref a) :=
  Rep.two ha (Rep.ints hc) (Rep.tupO hb rb)
theorem boxes_hard : ∀ bs : List (Option Int), D.hards (bs.map bxD) = true
  | [] => rfl
  | b :: bs => by
    show ((bxD b).hard && D.hards (bs.map bxD)) = true
    rw [boxes_hard bs]
    cases b <;> rfl
theorem tm_hard (t : Tm) : (tmD t).hard = true := by
  show ((fxD t.1).hard && (D.hards (t.2.map bxD) && true)) = true
  rw [boxes_hard]
  rfl
theorem hards_map {α : Type} {f : α → D} (h : ∀ x, (f x).hard = true) : ∀ xs : List α, D.hards (xs.map f) = true
  | [] => rfl
  | x :: xs => by
    show ((f x).hard && D.hards (xs.map f)) = true
    rw [h x, hards_map h xs]
    rfl
theorem sm_hard (s : Sm) : (smD s).hard = true := hards_map tm_hard s
theorem rl_hard (r : Rl) : (rlD r).hard = true := hards_map sm_hard r
theorem rd_hard (r : Rd) : (rdD r).hard = true := by
  show (D.hards (r.1.map D.int) && (D.hards (r.2.map rlD) && true)) = true
  rw [ints_hard, hards_map rl_hard]
  rfl
/-! ### what is amiss -/
def cntAt (cs : List Int) (n : Int) : Int := cs.getD n.toNat 0
def boxOk (cs : List Int) (p : Int × Option Int) : Bool := match p.2 with
  | none => true
  | some b => decide (0 ≤ b ∧ b < cntAt cs p.1)
def dueTm (cs ps : List Int) (t : Tm) : Option Str :=
  if 0 < t.1.2 ∧ Int.gcd t.1.1 t.1.2 = 1 then
    if t.2.length = ps.length then
      if (ps.zip t.2).all (boxOk cs) = true then none else some "box"
    else some "parts"
  else some "number"
def dueTms (cs ps : List Int) : List Tm → Option Str
  | [] => none
  | t :: ts => (dueTm cs ps t).or (dueTms cs ps ts)
def dueSms (cs ps : List Int) : List Sm → Option Str
  | [] => none
  | s :: ss => (dueTms cs ps s).or (dueSms cs ps ss)
def dueRl (cs : List Int) (w : Wd) (e : Nat × Mk) (r : Rl) : Option Str :=
  if (r.length : Int) = cntAt cs e.1 then dueSms cs (dueOf w e) r else some "sums"
def dueRls (cs : List Int) (w : Wd) : List ((Nat × Mk) × Rl) → Option (Str × Str)
  | [] => none
  | x :: xs => ((dueRl cs w x.1 x.2).map fun s => (s, x.1.2.1)).or (dueRls cs w xs)
def cntsOk (w : Wd) (cs : List Int) : Bool := decide (cs.length = w.length) && cs.all fun c => decide (0 ≤ c ∧ c ≤ 4)
def dueRd (w : Wd) (r : Rd) : Option (Str × Str) :=
  if cntsOk w r.1 = true then
    if r.2.length = (tabFrom 0 w).length then dueRls r.1 w ((tabFrom 0 w).zip r.2) else some ("rules", "")
  else some ("counts", "")
/-! ### bounds -/
structure TmB (t : Tm) : Prop where
  boxes : t.2.length ≤ 1000
  upper : Bits 900 t.1.1
  lower : Bits 900 t.1.2
structure RdrB (r : Rd) : Prop where
  counts : r.1.length ≤ 1000
  rules : r.2.length ≤ 1000
  rule : ∀ x ∈ r.2, x.length ≤ 1000 ∧ ∀ s ∈ x, s.length ≤ 1000 ∧ ∀ t ∈ s, TmB t
theorem gcd_lowest {u l : Int} (h : 0 < l) : (fru u l = u ∧ frl u l = l) ↔ Int.gcd u l = 1 := by
  have e : fpt u l = (Int.gcd u l : Nat) := if_neg (by omega)
  have g0 : 0 < Int.gcd u l := Int.gcd_pos_of_ne_zero_right u (by omega)
  constructor
  · rintro ⟨_, h2⟩
    unfold frl at h2
    rw [e] at h2
    have d : ((Int.gcd u l : Nat) : Int) ∣ l := Int.gcd_dvd_right _ _
    have m := Int.fdiv_mul_cancel d
    rw [h2] at m
    have : l * ((Int.gcd u l : Nat) : Int) = l * 1 := by rw [m, Int.mul_one]
    have := Int.eq_of_mul_eq_mul_left (by omega) this
    omega
  · intro hg
    unfold fru frl
    rw [e, hg]
    exact ⟨Int.fdiv_one u, Int.fdiv_one l⟩
/-- told: nothing amiss, or what, of which maker -/
def ToldR (C : Addr) (H : Hp) (o : Option (Str × Str)) (q : Hp → Prop) (E : XK) : Prop := (o = none → ∀ H', Ex H H' → q H') ∧ ∀ r, o = some r → ∀ d H', Ex H H' → H' d = some (.xd [("maker", .str r.2), ("word", .str r.1)]) → E (.ref C) (some d) H'
def spNeedR (C : Addr) : Sp := fun vs H Q E => ∃ (b : Bool) (x y : V), vs = [.bl b, x, y] ∧ (b = true → Q .non H) ∧ (b = false → ∀ d H', Ex H H' → H' d = some (.xd [("maker", y), ("word", x)]) → E (.ref C) (some d) H')
def spIsFx : Sp := fun vs H Q _ => ∃ (p : Addr) (u l : Int), vs = [.ref p] ∧ H p = some (.tup [.int u, .int l]) ∧ Bits 900 u ∧ Bits 900 l ∧ ∀ H', Ex H H' → Q (.bl (decide (0 < l ∧ Int.gcd u l = 1))) H'
def spLookTm (C : Addr) : Sp := fun vs H Q E => ∃ (c p : Addr) (cs ps : List Int) (t : Tm) (v : V) (s : Str), vs = [.ref c, .ref p, v, .str s] ∧ H c = some (.tup (cs.map V.int)) ∧ H p = some (.tup (ps.map V.int)) ∧ Rep H (tmD t) v ∧ TmB t ∧
  ps.length ≤ 1000 ∧ (∀ x ∈ ps, 0 ≤ x ∧ x < (cs.length : Nat)) ∧ ToldR C H ((dueTm cs ps t).map fun x => (x, s)) (Q .non) E
def spLookRd (C : Addr) : Sp := fun vs H Q E => ∃ (w : Wd) (r : Rd) (wv rv : V), vs = [wv, rv] ∧ Rep H (woodD w) wv ∧ WoodOk w ∧ Rep H (rdD r) rv ∧ RdrB r ∧ ToldR C H (dueRd w r) (Q (.bl true)) E
theorem g_eqIs {K : PySem.W.Frag} {H : Hp} {Q : VK} {a b : Addr} {x y z u : Int} (ha : H a = some (.tup [.int x, .int y])) (hb : H b = some (.tup [.int z, .int u])) (q : Q (.bl (decide (x = z ∧ y = u))) H) : rEqD K (.ref a) (.ref b) H Q := by
  refine ⟨_, _, .tup (sqT ha) (.cons (.int x) (.cons (.int y) .nil)), .tup (sqT hb) (.cons (.int z) (.cons (.int u) .nil)), rfl, rfl, ?_⟩
  have e : PyData.eqv (.tuple [.int x, .int y]) (.tuple [.int z, .int u]) = decide (x = z ∧ y = u) := by
    show ((x == z) && ((y == u) && true)) = _
    by_cases c : x = z <;> by_cases d : y = u <;> simp [c, d]
  rw [e]
  exact q
theorem tab_of : ∀ {w : Wd} {n : Nat} {e : Nat × Mk}, e ∈ tabFrom n w → ∃ (i : Nat) (k : Str × List Mk), w[i]? = some k ∧ e.2 ∈ k.2 ∧ e.1 = n + i
  | [], n, e, h => nomatch h
  | k :: w, n, e, h => by
    rcases List.mem_append.1 (show e ∈ k.2.map (fun m => (n, m)) ++ tabFrom (n + 1) w from h) with h | h
    · obtain ⟨m, hm, rfl⟩ := List.mem_map.1 h
      exact ⟨0, k, rfl, hm, rfl⟩
    · obtain ⟨i, k2, h1, h2, h3⟩ := tab_of h
      exact ⟨i + 1, k2, h1, h2, by omega⟩
theorem dueOf_in {w : Wd} (ok : WoodOk w) {e : Nat × Mk} (he : e ∈ tabFrom 0 w) : e.1 < w.length ∧ (dueOf w e).length = e.2.2.length ∧ e.2.2.length ≤ 2 ∧ ∀ x ∈ dueOf w e, 0 ≤ x ∧ x < (w.length : Nat) := by
  obtain ⟨i, k, hk, hm, he1⟩ := tab_of he
  have hkm := List.mem_of_getElem? hk
  have z := ok.mkr k hkm e.2 hm
  refine ⟨?_, by unfold dueOf; rw [List.length_map], z.2.1, fun x hx => ?_⟩
  · have := (List.getElem?_eq_some_iff.1 hk).1
    omega
  · unfold dueOf at hx
    obtain ⟨s, hs, rfl⟩ := List.mem_map.1 hx
    obtain ⟨k2, hk2, e2⟩ := List.mem_map.1 (z.2.2 s hs)
    obtain ⟨j, hj⟩ := List.mem_iff_getElem?.1 hk2
    rw [← e2, kno_idx ok.knd hj]
    have := (List.getElem?_eq_some_iff.1 hj).1
    omega
theorem cnt_at {cs : List Int} {n : Int} (h0 : 0 ≤ n) (h1 : n < (cs.length : Nat)) : atI (cs.map V.int) n = some (.int (cntAt cs n)) := by
  obtain ⟨x, ex, hx⟩ := atI_ex (l := cs.map V.int) h0 (by rw [List.length_map]; exact h1)
  rw [ex]
  rw [List.getElem?_map] at hx
  unfold cntAt
  rw [List.getD_eq_getElem?_getD]
  cases c : cs[n.toNat]? with
  | none => rw [c] at hx; cases hx
  | some y => rw [c] at hx; cases hx; rfl
/-! ### readers that are drawn -/
theorem decInt {a b : Int} : decide (V.int a = V.int b) = decide (a = b) := by
  by_cases c : a = b
  · rw [c, decide_eq_true rfl, decide_eq_true rfl]
  · rw [decide_eq_false c, decide_eq_false fun z => c (V.int.inj z)]
theorem zip_at {α β : Type} {as : List α} {bs : List β} {i : Nat} {a : α} {b : β} (ha : as[i]? = some a) (hb : bs[i]? = some b) : (as.zip bs)[i]? = some (a, b) := List.getElem?_zip_eq_some.2 ⟨ha, hb⟩
theorem g_callN {n m : Nat} {sp : Sp} {gV : List V → List V → List V} {E : XK} {t tk : TA} {σ : L2.St} {H : Hp} {Q : VK} (h : t σ H fun vs H1 => tk σ H1 fun zs H2 => vs.length = n ∧ zs.length = m ∧ sp (gV vs zs) H2 Q E) : tCallN n m sp gV E t tk σ H Q := h
def FxOk (f : Fx) : Prop := 0 < f.2 ∧ Int.gcd f.1 f.2 = 1 ∧ f.1.natAbs ≤ 1000 ∧ f.2 ≤ 100
def spGcdP : Sp := fun vs H Q _ => ∃ a b : Int, vs = [.int a, .int b] ∧ 0 ≤ a ∧ 0 ≤ b ∧ Q (.int (Int.gcd a b : Nat)) H
def spFx : Sp := fun vs H Q _ => ∃ p : Addr, vs = [.ref p] ∧ Box H p ∧ ∀ (q : Addr) (f : Fx) (H' : Hp), H' q = some (.tup [.int f.1, .int f.2]) → FxOk f → But p H H' → Box H' p → Q (.ref q) H'
structure TmOk (cs ps : List Int) (t : Tm) : Prop where
  num : FxOk t.1
  len : t.2.length = ps.length
  box : (ps.zip t.2).all (boxOk cs) = true
structure RdOk (w : Wd) (r : Rd) : Prop where
  counts : r.1.length = w.length
  count : ∀ c ∈ r.1, 0 ≤ c ∧ c ≤ 4
  rules : r.2.length = (tabFrom 0 w).length
  rule : ∀ (j : Nat) (e : Nat × Mk) (x : Rl), (tabFrom 0 w)[j]? = some e → r.2[j]? = some x → (x.length : Int) = cntAt r.1 e.1 ∧ ∀ s ∈ x, s.length ≤ 6 ∧ ∀ t ∈ s, TmOk r.1 (dueOf w e) t
def spReader : Sp := fun vs H Q _ => ∃ (p : Addr) (w : Wd) (v : V), vs = [.ref p, v] ∧ Box H p ∧ Rep H (woodD w) v ∧ WoodOk w ∧ ∀ (r : Rd) (rv : V) (H' : Hp), RdOk w r → Rep H' (rdD r) rv → But p H H' → Box H' p → Q rv H'
theorem fx_low {u l : Int} (h : 0 < l) : 0 < l.fdiv ((Int.gcd u l : Nat) : Int) ∧ Int.gcd (u.fdiv ((Int.gcd u l : Nat) : Int)) (l.fdiv ((Int.gcd u l : Nat) : Int)) = 1 ∧ (u.fdiv ((Int.gcd u l : Nat) : Int)).natAbs ≤ u.natAbs ∧ l.fdiv ((Int.gcd u l : Nat) : Int) ≤ l := by
  have g0 : 0 < Int.gcd u l := Int.gcd_pos_of_ne_zero_right u (by omega)
  have g1 : ((Int.gcd u l : Nat) : Int) ≠ 0 := by omega
  have d1 : ((Int.gcd u l : Nat) : Int) ∣ u := Int.gcd_dvd_left _ _
  have d2 : ((Int.gcd u l : Nat) : Int) ∣ l := Int.gcd_dvd_right _ _
  have m1 := Int.fdiv_mul_cancel d1
  have m2 := Int.fdiv_mul_cancel d2
  have p2 : 0 < l.fdiv ((Int.gcd u l : Nat) : Int) := by
    refine Int.pos_of_mul_pos_left ?_ (by omega : (0 : Int) < ((Int.gcd u l : Nat) : Int))
    rw [m2]
    exact h
  refine ⟨p2, ?_, fdiv_le g1 d1, ?_⟩
  · have := Int.gcd_mul_right (u.fdiv ((Int.gcd u l : Nat) : Int)) ((Int.gcd u l : Nat) : Int) (l.fdiv ((Int.gcd u l : Nat) : Int))
    rw [m1, m2] at this
    rw [Int.natAbs_natCast] at this
    have e : Int.gcd (u.fdiv ((Int.gcd u l : Nat) : Int)) (l.fdiv ((Int.gcd u l : Nat) : Int)) * Int.gcd u l = 1 * Int.gcd u l := by omega
    exact Nat.eq_of_mul_eq_mul_right g0 e
  · have := fdiv_le g1 d2
    omega
def spRdDue : Sp := fun vs H Q _ => ∃ (w : Wd) (r : Rd) (wv rv : V), vs = [wv, rv] ∧ Rep H (woodD w) wv ∧ WoodOk w ∧ Rep H (rdD r) rv ∧ RdrB r ∧ ∀ v H', Ex H H' → Rep H' (dueD2 (dueRd w r)) v → Q v H'
def spToldR : Sp := fun vs H Q _ => ∃ (w : Wd) (r : Rd) (wv rv : V), vs = [wv, rv] ∧ Rep H (woodD w) wv ∧ WoodOk w ∧ Rep H (rdD r) rv ∧ RdrB r ∧ ∀ p H', Ex H H' → H' p = some (.tup ((toldSs (dueRd w r)).map V.str)) → Q (.ref p) H'
theorem gcd_abs (u l : Int) : Int.gcd l (u.natAbs : Nat) = Int.gcd u l := by
  unfold Int.gcd
  rw [Int.natAbs_natCast, Nat.gcd_comm]
theorem all_snoc {α : Type} (f : α → Bool) (l : List α) (x : α) : (l ++ [x]).all f = (l.all f && f x) := by
  rw [List.all_append, List.all_cons, List.all_nil, Bool.and_true]
theorem empty_snoc {α : Type} (l : List α) (x : α) : (l ++ [x]).isEmpty = false := by cases l <;> rfl
/-! ### readers spoilt -/
def spWith : Sp := fun vs H Q _ => ∃ (a : Addr) (xs : List V) (i way : Int) (one : V), vs = [.ref a, .int i, .int way, one] ∧ H a = some (.tup xs) ∧ xs.length ≤ 1000 ∧ (0 ≤ i ∧ i ≤ 1000) ∧ 0 ≤ way ∧ way ≤ 3 ∧
  ∀ p ys H', Ex H H' → H' p = some (.tup ys) → (∀ y ∈ ys, y ∈ xs ∨ y = one) → ys.length ≤ xs.length + 1 → Q (.ref p) H'
theorem tuple_mulE (l : Addr) (items : Array Value) (n : Nat) (dd : Option Addr) (sl : Array (Option Value)) (x : Int) (u : Tok) (c0 : (decide (x < -(2 ^ 63)) || decide (x ≥ 2 ^ 63)) = false) (c1 : (items.isEmpty || x == 1) = true) :
    Meets (Builtin.«tuple.__mul__» ⟨[.ref l, .int x u], []⟩) (fun _ R s => s.heap.get? l = some { cls := .type "tuple", dict := dd, data := .seq items n, slots := sl } ∧ R (.ok (.ret (Value.ref l))) s) :=
  .of_wp fun prog w A R s h => by
    obtain ⟨hp, g, d, tk, os⟩ := s
    obtain ⟨hl, h⟩ := h
    have f1 := AutoSeq1.idx_int
    wp_walk using wpAny_loadPart' hl
    repeat (first
      | (refine wpAny_ite_false (decide_eq_false (by rw [c0]; exact Bool.false_ne_true)) ?_; wp_walk using wpAny_loadPart' hl)
      | (refine wpAny_ite_true (decide_eq_true (by rw [c1])) ?_; wp_walk using wpAny_loadPart' hl)
      | (refine wpAny_ite_true (by simp [c1]) ?_; wp_walk using wpAny_loadPart' hl))
    exact ⟨_, rfl, h⟩
def rRepTn (K : PySem.W.Frag) : R2 := fun x y H Q => ∃ (l : Addr) (k : Int) (xs : List V), x = .ref l ∧ y = .int k ∧ H l = some (.tup xs) ∧ xs.length ≤ 1000 ∧ 0 ≤ k ∧ k ≤ 1000 ∧
  ∀ p H', Ex H H' → H' p = some (.tup (List.replicate k.toNat xs).flatten) → Q (.ref p) H'
section
variable {X : Cx}
theorem op_repTn : OpR X (binaryOp .Mult) (rRepTn X.K) := by
  intro pins s σ H x y v u Q I rx ry h
  obtain ⟨l, k, xs, e1, e2, hT, hl, k0, k1, q⟩ := h
  have he : ∀ ys : List V, ys = (List.replicate k.toNat xs).flatten → ∀ p, H p = some (.tup ys) → Q (.ref p) H := fun ys e p hp => q p H (Ex.refl _) (by rw [← e]; exact hp)
  by_cases c2 : xs ≠ [] ∧ 2 ≤ k
  · exact op_repT pins s σ H x y v u Q I rx ry ⟨l, k, xs, e1, e2, sqT hT, c2.1, c2.2, k1, hl, fun p hp => q p _ (Ex.new hp) upd_same⟩
  subst e1 e2
  cases rx
  obtain ⟨t, rfl⟩ := ry
  obtain ⟨its, r, ⟨⟨cls, dd, data, sl⟩, ho, hc, n, hd⟩, hs⟩ := I.tuple (sqT hT)
  simp only at hc hd
  subst hc hd
  have F1 := @wpAny_binaryOp_repeat_ref
  by_cases c3 : xs = [] ∨ k = 1
  · have c4 : (its.toArray.isEmpty || k == 1) = true := by
      rcases c3 with rfl | rfl
      · cases r
        rfl
      · simp
    refine wpAny_binaryOp_repeat_ref (T := "tuple") (U := "int") (by decide) ⟨_, ho, rfl⟩ (fun s' => typeIs_int s' k t) noFill_tuple_mul F.fills_int_mul F.slot_int_rmul repeat_tuple F.slot_int_index.lookup
      (call_meets F.slot_int_rmul (typeIs_int s k t) F.entry_int_rmul (F.args_int_rmul_2 _ _) (int_rmul_tuple k t l its.toArray n dd sl)
        ⟨ho, rfl, ⟨_, ho, rfl⟩, call_meets F.slot_tuple_mul ⟨_, ho, rfl⟩ F.entry_tuple_mul (F.args_tuple_mul_2 _ _) (tuple_mulE l its.toArray n dd sl k t (by rw [decide_eq_false (by omega), decide_eq_false (by omega)]; rfl) c4) ⟨ho, ?_⟩⟩)
    refine ⟨.ref l, H, I, rfl, he xs ?_ l hT⟩
    rcases c3 with rfl | rfl
    · generalize k.toNat = m
      induction m with
      | zero => rfl
      | succ m ih => exact ih
    · show xs = (List.replicate 1 xs).flatten
      simp
  · have k2 : k = 0 := Classical.byContradiction fun z => c2 ⟨fun e => c3 (.inl e), by
      have : k ≠ 1 := fun e => c3 (.inr e)
      omega⟩
    subst k2
    have ne : its.toArray.isEmpty = false := by
      cases r with
      | nil => exact absurd (.inl rfl) c3
      | cons a b => rfl
    refine wpAny_binaryOp_repeat_ref (T := "tuple") (U := "int") (by decide) ⟨_, ho, rfl⟩ (fun s' => typeIs_int s' 0 t) noFill_tuple_mul F.fills_int_mul F.slot_int_rmul repeat_tuple F.slot_int_index.lookup
      (call_meets F.slot_int_rmul (typeIs_int s 0 t) F.entry_int_rmul (F.args_int_rmul_2 _ _) (int_rmul_tuple 0 t l its.toArray n dd sl)
        ⟨ho, rfl, ⟨_, ho, rfl⟩, call_meets F.slot_tuple_mul ⟨_, ho, rfl⟩ F.entry_tuple_mul (F.args_tuple_mul_2 _ _) (tuple_mul0 l its.toArray n dd sl t (by rw [ne]; rfl)) ⟨ho, ?_⟩⟩)
    refine ⟨.ref s.heap.objs.size, _, I.laid (t' := s.toks) (o := .tup []) (fun b ob q => Heap.get?_push_of_some _ q) (Nat.le_refl _) ?_, rfl, q _ _ (Ex.new (I.hok.fresh (Nat.le_refl _))) upd_same⟩
    exact ⟨by decide, _, .nil, IsTup.new _ _⟩
end
theorem g_repTn {K : PySem.W.Frag} {H : Hp} {Q : VK} {l : Addr} {k : Int} {xs : List V} (hl : H l = some (.tup xs)) (hx : xs.length ≤ 1000) (k0 : 0 ≤ k) (k1 : k ≤ 1000) (q : ∀ p H', Ex H H' → H' p = some (.tup (List.replicate k.toNat xs).flatten) → Q (.ref p) H') : rRepTn K (.ref l) (.int k) H Q := ⟨l, k, xs, rfl, rfl, hl, hx, k0, k1, q⟩
theorem cutV_len {xs : List V} {i : Int} (h0 : 0 ≤ i) : (cutV xs none (some i)).length = min i.toNat xs.length ∧ (cutV xs (some i) none).length = xs.length - i.toNat := by
  unfold cutV
  have e : i = ((i.toNat : Nat) : Int) := by omega
  rw [e, HT.sIx_nat, HT.sIx_none, HT.sIx_none, HT.sIx_nat]
  constructor
  · rw [List.length_take, List.length_drop]
    simp
    try omega
  · rw [List.length_take, List.length_drop]
    simp
    try omega
theorem cutV_one {xs : List V} {i : Int} (h0 : 0 ≤ i) : (cutV xs (some i) (some (i + 1))).length = min 1 (xs.length - i.toNat) := by
  unfold cutV
  have e : i = ((i.toNat : Nat) : Int) := by omega
  have e1 : i + 1 = ((i.toNat + 1 : Nat) : Int) := by omega
  rw [e1, e, HT.sIx_nat, HT.sIx_nat, List.length_take, List.length_drop]
  simp
  omega
end Bk

set_option Elab.async false
set_option linter.all false
set_option maxRecDepth 100000
set_option maxHeartbeats 4000000
/-! Bk28: readers spoilt, within bounds. -/
namespace Bk
open PySem PySem.Spec PyProof.Rows L2
def TmN (n : Nat) (t : Tm) : Prop := t.2.length ≤ 2 + n ∧ Bits 20 t.1.1 ∧ Bits 20 t.1.2
def SmN (n : Nat) (s : Sm) : Prop := s.length ≤ 6 + n ∧ ∀ t ∈ s, TmN n t
def RlN (n : Nat) (x : Rl) : Prop := x.length ≤ 4 + n ∧ ∀ s ∈ x, SmN n s
structure RdN (n : Nat) (r : Rd) : Prop where
  counts : r.1.length ≤ 4 + n
  rules : r.2.length ≤ 12 + n
  rule : ∀ x ∈ r.2, RlN n x
theorem TmN.le {n m : Nat} {t : Tm} (h : TmN n t) (hm : n ≤ m) : TmN m t := ⟨by have := h.1; omega, h.2⟩
theorem SmN.le {n m : Nat} {s : Sm} (h : SmN n s) (hm : n ≤ m) : SmN m s := ⟨by have := h.1; omega, fun t ht => (h.2 t ht).le hm⟩
theorem RlN.le {n m : Nat} {x : Rl} (h : RlN n x) (hm : n ≤ m) : RlN m x := ⟨by have := h.1; omega, fun s hs => (h.2 s hs).le hm⟩
theorem RdN.le {n m : Nat} {r : Rd} (h : RdN n r) (hm : n ≤ m) : RdN m r := ⟨by have := h.counts; omega, by have := h.rules; omega, fun x hx => (h.rule x hx).le hm⟩
theorem RdN.bnd {n : Nat} {r : Rd} (h : RdN n r) (hn : n ≤ 500) : RdrB r := ⟨by have := h.counts; omega, by have := h.rules; omega, fun x hx => ⟨by have := (h.rule x hx).1; omega, fun s hs => ⟨by have := ((h.rule x hx).2 s hs).1; omega, fun t ht => by
  have z := ((h.rule x hx).2 s hs).2 t ht
  exact ⟨by have := z.1; omega, z.2.1.le, z.2.2.le⟩⟩⟩⟩
theorem RdOk.n0 {w : Wd} (ok : WoodOk w) {r : Rd} (h : RdOk w r) : RdN 0 r := by
  refine ⟨by have := h.counts; have := ok.kinds; omega, by have := h.rules; have := ok.many; omega, fun x hx => ?_⟩
  obtain ⟨j, hj⟩ := List.mem_iff_getElem?.1 hx
  have hl := (List.getElem?_eq_some_iff.1 hj).1
  rw [h.rules] at hl
  have he := List.getElem?_eq_getElem hl
  obtain ⟨h1, h2⟩ := h.rule j _ x he hj
  obtain ⟨ek, dl, d2, din⟩ := dueOf_in ok (List.getElem_mem hl)
  have hc : cntAt r.1 ((tabFrom 0 w)[j]).1 ≤ 4 := by
    unfold cntAt
    rw [List.getD_eq_getElem?_getD]
    have hl2 : (((tabFrom 0 w)[j]).1 : Int).toNat < r.1.length := by
      rw [h.counts]
      omega
    rw [List.getElem?_eq_getElem hl2]
    exact (h.count _ (List.getElem_mem hl2)).2
  refine ⟨by omega, fun s hs => ⟨(h2 s hs).1, fun t ht => ?_⟩⟩
  have z := (h2 s hs).2 t ht
  refine ⟨by rw [z.len, dl]; omega, ?_, ?_⟩
  · exact Nat.lt_of_le_of_lt z.num.2.2.1 (by decide)
  · have := z.num
    have e : t.1.2.natAbs ≤ 100 := by
      have := this.1
      have := this
      have := z.num.2.2.2
      omega
    exact Nat.lt_of_le_of_lt e (by decide)
theorem map_of {α : Type} {f : α → V} : ∀ {ys : List V}, (∀ y ∈ ys, ∃ a, y = f a) → ∃ as : List α, ys = as.map f ∧ as.length = ys.length
  | [], _ => ⟨[], rfl, rfl⟩
  | y :: ys, h => by
    obtain ⟨a, rfl⟩ := h y List.mem_cons_self
    obtain ⟨as, rfl, e⟩ := map_of (ys := ys) fun z hz => h z (List.mem_cons_of_mem _ hz)
    exact ⟨a :: as, rfl, by rw [List.length_cons, List.length_cons, e]⟩
theorem reps_with {α : Type} {f : α → D} {P : α → Prop} {H : Hp} {as : List α} {xs ys : List V} {one : V} (r : Reps H (as.map f) xs) (h : ∀ a ∈ as, P a) (h1 : ∃ b, P b ∧ Rep H (f b) one) (hy : ∀ y ∈ ys, y ∈ xs ∨ y = one) :
    ∃ bs : List α, bs.length = ys.length ∧ (∀ b ∈ bs, P b) ∧ Reps H (bs.map f) ys := by
  refine acc_reps fun j v hj => ?_
  rcases hy v (List.mem_of_getElem? hj) with hv | rfl
  · obtain ⟨i, hi⟩ := List.mem_iff_getElem?.1 hv
    obtain ⟨d, hd, rd⟩ := r.get hi
    rw [List.getElem?_map] at hd
    cases e : as[i]? with
    | none => rw [e] at hd; cases hd
    | some a =>
      rw [e] at hd
      cases hd
      exact ⟨a, h a (List.mem_of_getElem? e), rd⟩
  · exact h1
theorem dpok_box {K : PySem.W.Frag} {H : Hp} {b : Option Int} {k : Nat} : DpOk K H (bxV b) k := by
  cases b with
  | none => exact ⟨.none, .non, rfl, Nat.zero_le _⟩
  | some i => exact dpok_int
theorem tm_dp {K : PySem.W.Frag} {H : Hp} {t : Tm} {v : V} {k : Nat} (r : Rep H (tmD t) v) : DpOk K H v (k + 2) := by
  obtain ⟨a, p, q, rfl, ha, hp, hq⟩ := tm_at r
  refine dpok_tup ha fun x hx => ?_
  rcases List.mem_cons.1 hx with rfl | hx
  · refine dpok_tup hp fun y hy => ?_
    rcases List.mem_cons.1 hy with rfl | hy
    · exact dpok_int
    · rw [List.mem_singleton.1 hy]
      exact dpok_int
  · rw [List.mem_singleton.1 hx]
    refine dpok_tup hq fun y hy => ?_
    obtain ⟨b, _, rfl⟩ := List.mem_map.1 hy
    exact dpok_box
theorem dp_reps {α : Type} {K : PySem.W.Frag} {H : Hp} {f : α → D} {k : Nat} {as : List α} {xs : List V} (h : ∀ a v, Rep H (f a) v → DpOk K H v k) (r : Reps H (as.map f) xs) : ∀ x ∈ xs, DpOk K H x k := fun x hx => by
  obtain ⟨j, hj⟩ := List.mem_iff_getElem?.1 hx
  obtain ⟨d, hd, rd⟩ := r.get hj
  rw [List.getElem?_map] at hd
  cases e : as[j]? with
  | none => rw [e] at hd; cases hd
  | some a =>
    rw [e] at hd
    cases hd
    exact h a x rd
theorem sm_dp {K : PySem.W.Frag} {H : Hp} {s : Sm} {v : V} {k : Nat} (r : Rep H (smD s) v) : DpOk K H v (k + 3) := by
  obtain ⟨a, xs, rfl, ha, rs⟩ := Rep.tupI r
  exact dpok_tup ha (dp_reps (fun t v h => tm_dp h) rs)
theorem rl_dp {K : PySem.W.Frag} {H : Hp} {x : Rl} {v : V} {k : Nat} (r : Rep H (rlD x) v) : DpOk K H v (k + 4) := by
  obtain ⟨a, xs, rfl, ha, rs⟩ := Rep.tupI r
  exact dpok_tup ha (dp_reps (fun t v h => sm_dp h) rs)
theorem eqv_nilT {K : PySem.W.Frag} {H : Hp} {xs : List V} (h : ∀ x ∈ xs, DpOk K H x 60) : ∃ ds, DpAll K H xs ds ∧ SeqAt.shaped (.tuple ds) = true ∧ PyData.eqv (.tuple ds) (.tuple []) = xs.isEmpty := by
  obtain ⟨ds, h1, h2, h3, h4⟩ := dpok_all h
  refine ⟨ds, h1, ?_, ?_⟩
  · show (PyData.canLayAll0 ds && decide (PyData.depthAll ds + 1 ≤ 64)) = true
    rw [h2, decide_eq_true (by omega)]
    rfl
  · show PyData.eqvAll ds [] = xs.isEmpty
    cases ds with
    | nil =>
      have : xs = [] := List.eq_nil_of_length_eq_zero h4.symm
      subst this
      rfl
    | cons d ds =>
      cases xs with
      | nil => cases h4
      | cons x xs => rfl
theorem g_eqNilT {K : PySem.W.Frag} {H : Hp} {Q : VK} {a b : Addr} {xs : List V} (ha : H a = some (.tup xs)) (hb : H b = some (.tup [])) (h : ∀ x ∈ xs, DpOk K H x 60) (q : Q (.bl xs.isEmpty) H) : rEqD K (.ref a) (.ref b) H Q := by
  obtain ⟨ds, h1, h2, h3⟩ := eqv_nilT h
  exact ⟨.tuple ds, .tuple [], .tup (sqT ha) h1, .tup (sqT hb) .nil, h2, rfl, by rw [h3]; exact q⟩
theorem g_neNilT {K : PySem.W.Frag} {H : Hp} {Q : VK} {a b : Addr} {xs : List V} (ha : H a = some (.tup xs)) (hb : H b = some (.tup [])) (h : ∀ x ∈ xs, DpOk K H x 60) (q : Q (.bl (!xs.isEmpty)) H) : rNeD K (.ref a) (.ref b) H Q := by
  obtain ⟨ds, h1, h2, h3⟩ := eqv_nilT h
  exact ⟨.tuple ds, .tuple [], .tup (sqT ha) h1, .tup (sqT hb) .nil, h2, rfl, by rw [h3]; exact q⟩
theorem Box.tkne {H H' : Hp} {p a : Addr} {xs : List V} (b : Box H' p) (e : Ex H H') (h : H a = some (.tup xs)) : a ≠ p := fun z => by
  obtain ⟨_, _, _, hp⟩ := b
  rw [z] at h
  have := e _ _ h
  rw [hp] at this
  cases this
def spSpoiltTm : Sp := fun vs H Q _ => ∃ (p : Addr) (t : Tm) (v : V) (n : Nat), vs = [.ref p, v] ∧ Box H p ∧ Rep H (tmD t) v ∧ TmN n t ∧ n ≤ 20 ∧ ∀ (t' : Tm) (v' : V) (H' : Hp), TmN (n + 1) t' → Rep H' (tmD t') v' → But p H H' → Box H' p → Q v' H'
def spSpoiltRd : Sp := fun vs H Q _ => ∃ (p : Addr) (r : Rd) (v : V) (n : Nat), vs = [.ref p, v] ∧ Box H p ∧ Rep H (rdD r) v ∧ RdN n r ∧ n ≤ 20 ∧ ∀ (r' : Rd) (v' : V) (H' : Hp), RdN (n + 1) r' → Rep H' (rdD r') v' → But p H H' → Box H' p → Q v' H'
/-! ### what stands while a box is drawn from -/
def Kp (p : Addr) (H H' : Hp) : Prop := But p H H' ∧ Box H' p ∧ Tk H H'
theorem Kp.refl {p : Addr} {H : Hp} (h : Box H p) : Kp p H H := ⟨But.refl _ _, h, Tk.refl _⟩
theorem Kp.but {p : Addr} {H H1 H2 : Hp} (k : Kp p H H1) (b : But p H1 H2) (hb : Box H2 p) : Kp p H H2 := ⟨k.1.trans b, hb, k.2.2.trans (k.2.1.tk b)⟩
theorem Kp.ex {p : Addr} {H H1 H2 : Hp} (k : Kp p H H1) (e : Ex H1 H2) : Kp p H H2 := k.but (e.but p) (k.2.1.ex e)
theorem Kp.new {p a : Addr} {H H1 : Hp} {o : HO} (k : Kp p H H1) (h : H1 a = none) : Kp p H (upd H1 a o) := k.ex (Ex.new h)
theorem Kp.trans {p : Addr} {H H1 H2 : Hp} (k : Kp p H H1) (k2 : Kp p H1 H2) : Kp p H H2 := k.but k2.1 k2.2.1
theorem Reps.tkm {α : Type} {f : α → D} {H H' : Hp} {as : List α} {xs : List V} (t : Tk H H') (hf : ∀ a, (f a).hard = true) (r : Reps H (as.map f) xs) : Reps H' (as.map f) xs := Reps.tk t (hards_map hf as) r
theorem Kp.put {p a : Addr} {H H1 : Hp} {xs ys : List V} (k : Kp p H H1) (h : H a = none) (n : a ≠ p) (hl : H1 a = some (.lst xs)) : Kp p H (upd H1 a (.lst ys)) := ⟨k.1.at_new h, k.2.1.at_upd n, k.2.2.trans (((But.refl a H1).upd).tkl hl)⟩
theorem Kp.free {p a : Addr} {H H1 : Hp} (k : Kp p H H1) (h : H1 a = none) : H a = none := by
  have n := k.2.1.ne h
  cases e : H a with
  | none => rfl
  | some o =>
    have := k.1 a o n e
    rw [h] at this
    cases this
theorem Kp.ne {p a : Addr} {H H1 : Hp} (k : Kp p H H1) (h : H1 a = none) : a ≠ p := k.2.1.ne h
theorem bxV_inj {a b : Option Int} (h : bxV a = bxV b) : a = b := by
  cases a with
  | none =>
    cases b with
    | none => rfl
    | some y => cases h
  | some x =>
    cases b with
    | none => cases h
    | some y =>
      injection h with h
      rw [h]
theorem reps_snoc {α : Type} {f : α → D} {H : Hp} {as : List α} {xs : List V} {a : α} {v : V} (r : Reps H (as.map f) xs) (h : Rep H (f a) v) : Reps H ((as ++ [a]).map f) (xs ++ [v]) := by
  rw [List.map_append]
  exact Reps.append r ⟨v, [], rfl, h, by simp only [List.map, Reps]⟩
theorem tk_put {H : Hp} {a : Addr} {xs ys : List V} (hl : H a = some (.lst xs)) : Tk H (upd H a (.lst ys)) := ((But.refl a H).upd).tkl hl
/-! ### what is told is text -/
def wordsR : List Str := ["number", "parts", "box", "sums", "rules", "counts"]
theorem dueTm_word {cs ps : List Int} {t : Tm} {x : Str} (h : dueTm cs ps t = some x) : x ∈ wordsR := by
  unfold dueTm at h
  split at h
  · split at h
    · split at h
      · cases h
      · cases h
        simp [wordsR]
    · cases h
      simp [wordsR]
  · cases h
    simp [wordsR]
theorem or_some {α : Type} {a b : Option α} {x : α} (h : a.or b = some x) : a = some x ∨ b = some x := by
  cases a with
  | none => exact .inr h
  | some y => exact .inl h
theorem dueTms_word {cs ps : List Int} {x : Str} : ∀ {ts : List Tm}, dueTms cs ps ts = some x → x ∈ wordsR
  | [], h => nomatch h
  | t :: ts, h => by
    rcases or_some h with h | h
    · exact dueTm_word h
    · exact dueTms_word h
theorem dueSms_word {cs ps : List Int} {x : Str} : ∀ {ts : List Sm}, dueSms cs ps ts = some x → x ∈ wordsR
  | [], h => nomatch h
  | t :: ts, h => by
    rcases or_some h with h | h
    · exact dueTms_word h
    · exact dueSms_word h
theorem dueRl_word {cs : List Int} {w : Wd} {e : Nat × Mk} {r : Rl} {x : Str} (h : dueRl cs w e r = some x) : x ∈ wordsR := by
  unfold dueRl at h
  split at h
  · exact dueSms_word h
  · cases h
    simp [wordsR]
theorem dueRls_word {cs : List Int} {w : Wd} {x : Str × Str} : ∀ {l : List ((Nat × Mk) × Rl)}, dueRls cs w l = some x → x.1 ∈ wordsR ∧ ∃ z ∈ l, x.2 = z.1.2.1
  | [], h => nomatch h
  | y :: l, h => by
    rcases or_some h with h | h
    · cases e : dueRl cs w y.1 y.2 with
      | none => rw [e] at h; cases h
      | some s =>
        rw [e] at h
        cases h
        exact ⟨dueRl_word e, y, List.mem_cons_self, rfl⟩
    · obtain ⟨a, z, hz, e⟩ := dueRls_word h
      exact ⟨a, z, List.mem_cons_of_mem _ hz, e⟩
theorem toldR_ok {w : Wd} (ok : WoodOk w) (r : Rd) : ∀ s ∈ toldSs (dueRd w r), ∀ c ∈ s.cps.toList, c < 0x110000 := by
  have lits : ∀ s ∈ ("" : Str) :: "refused" :: "let by" :: wordsR, ∀ c ∈ s.cps.toList, c < 0x110000 := by decide +kernel
  cases e : dueRd w r with
  | none =>
    intro s hs
    rw [List.mem_singleton.1 hs]
    exact lits _ (by simp)
  | some x =>
    have hx : x.1 ∈ wordsR ∧ (x.2 = "" ∨ isName x.2 = true) := by
      unfold dueRd at e
      split at e
      · split at e
        · obtain ⟨a, z, hz, e2⟩ := dueRls_word e
          refine ⟨a, .inr ?_⟩
          have hm := (List.of_mem_zip (show (z.1, z.2) ∈ _ from hz)).1
          obtain ⟨i, k, hk, hm2, _⟩ := tab_of hm
          rw [e2]
          exact (ok.mkr k (List.mem_of_getElem? hk) _ hm2).1
        · cases e
          exact ⟨by simp [wordsR], .inl rfl⟩
      · cases e
        exact ⟨by simp [wordsR], .inl rfl⟩
    intro s hs
    simp only [toldSs, List.mem_cons, List.not_mem_nil, or_false] at hs
    rcases hs with rfl | rfl | rfl
    · exact lits _ (by simp)
    · exact lits _ (List.mem_cons_of_mem _ (List.mem_cons_of_mem _ (List.mem_cons_of_mem _ hx.1)))
    · rcases hx.2 with e2 | e2
      · rw [e2]
        exact lits _ (by simp)
      · exact (isName_text e2).2
theorem kind_dp {K : PySem.W.Frag} {H : Hp} {w : Wd} (ok : WoodOk w) {xs : List V} (r : Reps H (w.map kindD) xs) : ∀ x ∈ xs, DpOk K H x 60 := fun x hx => by
  obtain ⟨j, hj⟩ := List.mem_iff_getElem?.1 hx
  obtain ⟨k, b, c, ys, ek, rfl, hb, hc, ry⟩ := wood_at r hj
  have hk := List.mem_of_getElem? ek
  refine dpok_tup hb fun y hy => ?_
  rcases List.mem_cons.1 hy with rfl | hy
  · exact dpok_str (isName_text (ok.name k hk)).2
  · rw [List.mem_singleton.1 hy]
    refine dpok_tup (k := 58) hc fun z hz => ?_
    obtain ⟨u, hu⟩ := List.mem_iff_getElem?.1 hz
    obtain ⟨d, hd, rd⟩ := ry.get hu
    rw [List.getElem?_map] at hd
    cases e : k.2[u]? with
    | none => rw [e] at hd; cases hd
    | some m =>
      rw [e] at hd
      cases hd
      have hm := List.mem_of_getElem? e
      have z2 := ok.mkr k hk m hm
      refine mk_dp (k := 56) (isName_text z2.1) (fun s hs => ?_) rd
      obtain ⟨k2, hk2, e2⟩ := List.mem_map.1 (z2.2.2 s hs)
      rw [← e2]
      exact isName_text (ok.name k2 hk2)
end Bk

set_option Elab.async false
set_option linter.all false
set_option maxRecDepth 100000
set_option maxHeartbeats 4000000
/-! Bk29: fractions added and multiplied, how great they become. -/
namespace Bk
open PySem PySem.Spec PyProof.Rows L2
theorem gcdFmod (x y : Int) : Int.gcd y (x.fmod y) = Int.gcd x y := by
  have e : x.fmod y = x - x.fdiv y * y := by
    have := Int.fmod_add_mul_fdiv x y
    rw [Int.mul_comm] at this
    omega
  rw [e, Int.gcd_comm x y, Int.gcd_sub_mul_right_right]
theorem fmodLess {x y : Int} (h : y ≠ 0) : (x.fmod y).natAbs < y.natAbs := by
  by_cases c : 0 < y
  · have a1 := Int.fmod_nonneg_of_pos x c
    have a2 := Int.fmod_lt_of_pos x c
    omega
  · have a1 := Int.fmod_nonneg_of_pos (-x) (b := -y) (by omega)
    have a2 := Int.fmod_lt_of_pos (-x) (b := -y) (by omega)
    rw [Int.neg_fmod_neg] at a1 a2
    omega
/-- the lower number goes into N, the worth is at most A -/
structure Szf (A N : Nat) (f : Fx) : Prop where
  pos : 0 < f.2
  dvd : f.2.natAbs ∣ N
  le : f.1.natAbs ≤ A * f.2.natAbs
def lowF (u l : Int) : Fx := (fru u l, frl u l)
def mulF (f g : Fx) : Fx := lowF (f.1 * g.1) (f.2 * g.2)
def addF (f g : Fx) : Fx := lowF (f.1 * g.2 + g.1 * f.2) (f.2 * g.2)
theorem Szf.mono {A B N M : Nat} {f : Fx} (h : Szf A N f) (ha : A ≤ B) (hn : N ∣ M) : Szf B M f := ⟨h.pos, Nat.dvd_trans h.dvd hn, Nat.le_trans h.le (Nat.mul_le_mul_right _ ha)⟩
theorem low_parts {u l : Int} (h : 0 < l) : fru u l * (Int.gcd u l : Nat) = u ∧ frl u l * (Int.gcd u l : Nat) = l ∧ 0 < frl u l ∧ Nat.gcd (fru u l).natAbs (frl u l).natAbs = 1 := by
  have e : fpt u l = (Int.gcd u l : Nat) := if_neg (by omega)
  obtain ⟨f1, f2, _, _⟩ := fx_low (u := u) h
  have d1 : ((Int.gcd u l : Nat) : Int) ∣ u := Int.gcd_dvd_left _ _
  have d2 : ((Int.gcd u l : Nat) : Int) ∣ l := Int.gcd_dvd_right _ _
  unfold fru frl
  rw [e]
  exact ⟨Int.fdiv_mul_cancel d1, Int.fdiv_mul_cancel d2, f1, f2⟩
theorem low_sz {A N : Nat} {u l c : Int} (h : 0 < l) (hN : u * (N : Int) = c * l) (hA : u.natAbs ≤ A * l.natAbs) : Szf A N (lowF u l) := by
  obtain ⟨e1, e2, e3, e4⟩ := low_parts (u := u) h
  have g0 : 0 < Int.gcd u l := Int.gcd_pos_of_ne_zero_right u (by omega)
  have g1 : ((Int.gcd u l : Nat) : Int) ≠ 0 := by omega
  refine ⟨e3, ?_, ?_⟩
  · show (frl u l).natAbs ∣ N
    have k : fru u l * (N : Int) = c * frl u l := by
      refine Int.eq_of_mul_eq_mul_right g1 ?_
      rw [Int.mul_assoc, Int.mul_comm (N : Int), ← Int.mul_assoc, e1, hN, Int.mul_assoc, e2]
    have k2 : (frl u l).natAbs ∣ (fru u l).natAbs * N := by
      refine ⟨c.natAbs, ?_⟩
      have := congrArg Int.natAbs k
      rw [Int.natAbs_mul, Int.natAbs_mul, Int.natAbs_natCast] at this
      rw [this, Nat.mul_comm]
    exact Nat.Coprime.dvd_of_dvd_mul_left (Nat.Coprime.symm e4) k2
  · show (fru u l).natAbs ≤ A * (frl u l).natAbs
    refine Nat.le_of_mul_le_mul_right ?_ g0
    have a1 := congrArg Int.natAbs e1
    have a2 := congrArg Int.natAbs e2
    rw [Int.natAbs_mul, Int.natAbs_natCast] at a1 a2
    rw [a1, Nat.mul_assoc, a2]
    exact hA
theorem Szf.mul {A B N M : Nat} {f g : Fx} (h : Szf A N f) (k : Szf B M g) : Szf (A * B) (N * M) (mulF f g) := by
  obtain ⟨x, hx⟩ := Nat.mul_dvd_mul h.dvd k.dvd
  have e : (f.2 * g.2).natAbs = f.2.natAbs * g.2.natAbs := Int.natAbs_mul _ _
  refine low_sz (c := f.1 * g.1 * (x : Int)) (Int.mul_pos h.pos k.pos) ?_ ?_
  · have e2 : ((N * M : Nat) : Int) = (f.2 * g.2) * (x : Int) := by
      rw [hx, Int.natCast_mul, Int.natCast_mul, Int.natAbs_of_nonneg (Int.le_of_lt h.pos), Int.natAbs_of_nonneg (Int.le_of_lt k.pos)]
    rw [e2]
    ac_rfl
  · rw [Int.natAbs_mul, e]
    refine Nat.le_trans (Nat.mul_le_mul h.le k.le) ?_
    exact Nat.le_of_eq (by rw [Nat.mul_mul_mul_comm])
theorem Szf.add {A B N : Nat} {f g : Fx} (h : Szf A N f) (k : Szf B N g) : Szf (A + B) N (addF f g) := by
  obtain ⟨x, hx⟩ := h.dvd
  obtain ⟨y, hy⟩ := k.dvd
  have e : (f.2 * g.2).natAbs = f.2.natAbs * g.2.natAbs := Int.natAbs_mul _ _
  have p1 : (N : Int) = f.2 * (x : Int) := by rw [hx, Int.natCast_mul, Int.natAbs_of_nonneg (Int.le_of_lt h.pos)]
  have p2 : (N : Int) = g.2 * (y : Int) := by rw [hy, Int.natCast_mul, Int.natAbs_of_nonneg (Int.le_of_lt k.pos)]
  refine low_sz (c := f.1 * (x : Int) + g.1 * (y : Int)) (Int.mul_pos h.pos k.pos) ?_ ?_
  · rw [Int.add_mul, Int.add_mul]
    congr 1
    · rw [p1]
      ac_rfl
    · rw [p2]
      ac_rfl
  · refine Nat.le_trans (Int.natAbs_add_le _ _) ?_
    rw [Int.natAbs_mul, Int.natAbs_mul, e, Nat.add_mul]
    refine Nat.add_le_add ?_ ?_
    · refine Nat.le_trans (Nat.mul_le_mul_right _ h.le) (Nat.le_of_eq ?_)
      rw [Nat.mul_assoc]
    · refine Nat.le_trans (Nat.mul_le_mul_right _ k.le) (Nat.le_of_eq ?_)
      rw [Nat.mul_assoc, Nat.mul_comm g.2.natAbs]
theorem Szf.bits {A N n m : Nat} {f : Fx} (h : Szf A N f) (hN : N < 2 ^ n) (hA : A < 2 ^ m) (h0 : 0 < N) : Bits n f.2 ∧ Bits (m + n) f.1 := by
  have l2 : f.2.natAbs ≤ N := Nat.le_of_dvd h0 h.dvd
  refine ⟨Nat.lt_of_le_of_lt l2 hN, ?_⟩
  show f.1.natAbs < 2 ^ (m + n)
  refine Nat.lt_of_le_of_lt h.le ?_
  rw [Nat.pow_add]
  refine Nat.lt_of_le_of_lt (Nat.mul_le_mul_left _ l2) ?_
  exact Nat.mul_lt_mul'' hA hN
/-- the contract of a law's own sum and product -/
def spArF (op : Fx → Fx → Fx) : Sp := fun vs H Q _ => ∃ (p r : Addr) (f g : Fx), vs = [.ref p, .ref r] ∧ H p = some (.tup [.int f.1, .int f.2]) ∧ H r = some (.tup [.int g.1, .int g.2]) ∧ 0 < f.2 ∧ 0 < g.2 ∧ Bits 6000 f.1 ∧ Bits 4400 f.2 ∧ Bits 6000 g.1 ∧ Bits 4400 g.2 ∧
  ∀ q H', Ex H H' → H' q = some (.tup [.int (op f g).1, .int (op f g).2]) → Q (.ref q) H'
theorem lowF_eq {u l : Int} (h : 0 < l) : lowF u l = (u.fdiv (Int.gcd u l : Nat), l.fdiv (Int.gcd u l : Nat)) := by
  have e : fpt u l = (Int.gcd u l : Nat) := if_neg (by omega)
  unfold lowF fru frl
  rw [e]
theorem Bits.cmW {n m : Nat} {i j : Int} (h : Bits n i) (g : Bits m j) (hn : 0 < n := by decide) (hm : 0 < m := by decide) (hs : n + m ≤ 1000000 := by decide) : CMm i j := .inr (wide_mul h g hn hm hs)
def fxsD (fs : List Fx) : D := .tup (fs.map fxD)
def stepF (f : Fx) (x : List Fx × Option Int) : Fx := match x.2 with
  | none => f
  | some i => mulF f (x.1.getD i.toNat (0, 1))
def prodF (f : Fx) (l : List (List Fx × Option Int)) : Fx := l.foldl stepF f
def plusF (parts : List (List Fx)) (f : Fx) (t : Tm) : Fx := addF f (prodF t.1 (parts.zip t.2))
def sumF (parts : List (List Fx)) (s : Sm) : Fx := s.foldl (plusF parts) (0, 1)
def madeF (parts : List (List Fx)) (r : Rl) : List Fx := r.map (sumF parts)
/-- a sum's terms fit: as many boxes as parts, each there, no product too great -/
structure FitS (A N : Nat) (parts : List (List Fx)) (s : Sm) : Prop where
  many : s.length ≤ 6
  term : ∀ t ∈ s, t.2.length = parts.length ∧ (∀ (j : Nat) (p : List Fx) (i : Int), parts[j]? = some p → t.2[j]? = some (some i) → 0 ≤ i ∧ i < (p.length : Nat)) ∧ ∀ j, Szf A N (prodF t.1 ((parts.zip t.2).take j))
structure FitP (A N : Nat) (parts : List (List Fx)) : Prop where
  nat : 0 < N
  lower : N < 2 ^ 4200
  upper : 6 * A < 2 ^ 1000
  part : ∀ p ∈ parts, ∀ f ∈ p, Szf A N f
theorem FitP.num {A N : Nat} {parts : List (List Fx)} (h : FitP A N parts) {B : Nat} {f : Fx} (hB : B ≤ 6 * A) (s : Szf B N f) : 0 < f.2 ∧ Bits 6000 f.1 ∧ Bits 4400 f.2 := by
  have z := s.bits h.lower (Nat.lt_of_le_of_lt hB h.upper) h.nat
  exact ⟨s.pos, z.2.le, z.1.le⟩
theorem sum_sz {A N : Nat} {parts : List (List Fx)} {s : Sm} (h : FitS A N parts s) : ∀ k, k ≤ s.length → Szf (k * A) N ((s.take k).foldl (plusF parts) (0, 1))
  | 0, _ => ⟨show (0 : Int) < 1 by decide, ⟨N, (Nat.one_mul N).symm⟩, Nat.zero_le _⟩
  | k + 1, hk => by
    have a := sum_sz h k (by omega)
    have e : s[k]? = some s[k] := List.getElem?_eq_getElem hk
    rw [take_at e, List.foldl_append, Nat.succ_mul]
    refine a.add ?_
    have z := ((h.term s[k] (List.getElem_mem hk)).2.2 (parts.zip s[k].2).length)
    rw [List.take_length] at z
    exact z
def spMadeF (K : PySem.W.Frag) : Sp := fun vs H Q _ => ∃ (sa pa : Addr) (r : Rl) (parts : List (List Fx)) (pvs : List V) (A N : Nat), vs = [.ref sa, .ref pa] ∧ Rep H (rlD r) (.ref sa) ∧ H pa = some (.lst pvs) ∧ Reps H (parts.map fxsD) pvs ∧ parts.length ≤ 100 ∧ r.length ≤ 100 ∧ FitP A N parts ∧ (∀ s ∈ r, FitS A N parts s) ∧
  ∀ q H', Ex H H' → Rep H' (fxsD (madeF parts r)) (.ref q) → Q (.ref q) H'
theorem fxs_at {H : Hp} {fs : List Fx} {v : V} {i : Int} (h : Rep H (fxsD fs) v) (h0 : 0 ≤ i) (h1 : i < (fs.length : Nat)) : ∃ a vs p, v = .ref a ∧ H a = some (.tup vs) ∧ atI vs i = some (.ref p) ∧ H p = some (.tup [.int (fs.getD i.toNat (0, 1)).1, .int (fs.getD i.toNat (0, 1)).2]) ∧ fs.getD i.toNat (0, 1) ∈ fs := by
  obtain ⟨a, vs, rfl, ha, rs⟩ := Rep.tupI h
  have lvs : vs.length = fs.length := by rw [rs.len, List.length_map]
  obtain ⟨x, ex, hx⟩ := atI_ex (l := vs) h0 (by omega)
  obtain ⟨d, hd, rd⟩ := rs.get hx
  rw [List.getElem?_map] at hd
  cases e : fs[i.toNat]? with
  | none => rw [e] at hd; cases hd
  | some f =>
    rw [e] at hd
    cases hd
    obtain ⟨p, rfl, hp⟩ := fx_at rd
    refine ⟨a, vs, p, rfl, ha, ex, ?_, ?_⟩
    · rw [List.getD_eq_getElem?_getD, e]
      exact hp
    · rw [List.getD_eq_getElem?_getD, e]
      exact List.mem_of_getElem? e
theorem fx_hard (f : Fx) : (fxD f).hard = true := rfl
theorem fxs_hard (fs : List Fx) : (fxsD fs).hard = true := hards_map fx_hard fs
theorem stepF_some {f : Fx} {p : List Fx} {i : Int} : stepF f (p, some i) = mulF f (p.getD i.toNat (0, 1)) := rfl
end Bk

set_option Elab.async false
set_option linter.all false
set_option maxRecDepth 100000
set_option maxHeartbeats 4000000
/-! Bk30: zip(a, b, c) of lists and tuples of one length. -/
namespace Bk
open PySem PySem.Spec PyProof.Rows L2
theorem draws_sit {prog : Program} {w : World} {A : Around} (hh : A.handled = none) (k : Bool) (it l : Addr) (hne : l ≠ it) (xs : Array Value) :
    Draws prog w A it [it, l] xs.size (fun i x => xs[i]? = some x) (fun i h => SIt h k it l i xs) where
  live := fun i h st => by
    obtain ⟨o, e, _⟩ := st.ki.get
    exact ⟨o, e⟩
  frame := fun i h h' st f => st.keep (f it (by simp)) (f l (by simp))
  item := fun i s Q E hi st hQ => by
    have hx : xs[i]? = some xs[i] := by simp [hi]
    exact sit_item st hne hx fun h' a b => hQ _ h' s.toks hx a b
  done := fun s Q E st hE => sit_end hh st (by simp) hE
def ItS3 (K : PySem.W.Frag) (k1 k2 k3 : Bool) (a b c : Addr) : It :=
  ⟨fun i H => ∃ (xs ys zs : List V) (x y z : V), SqK K H k1 a xs ∧ SqK K H k2 b ys ∧ SqK K H k3 c zs ∧ xs[i]? = some x ∧ ys[i]? = some y ∧ zs[i]? = some z,
    fun i H v H' => ∃ T x y z, v = .ref T ∧ H T = none ∧ H' = upd H T (.tup [x, y, z]) ∧ (∀ xs, SqK K H k1 a xs → xs[i]? = some x) ∧ (∀ ys, SqK K H k2 b ys → ys[i]? = some y) ∧ ∀ zs, SqK K H k3 c zs → zs[i]? = some z,
    fun i H => ∃ xs ys zs : List V, SqK K H k1 a xs ∧ SqK K H k2 b ys ∧ SqK K H k3 c zs ∧ xs.length = i ∧ ys.length = i ∧ zs.length = i⟩
theorem turn_zip3 {P : Program} {w : World} {K : PySem.W.Frag} {elts : List Expr} {kk : Nat} {tpos : Pos} {k1 k2 k3 : Bool} {a b c z TI TO i1 i2 i3 : Addr} (S : ZipSep3 z TI TO i1 i2 i3 [i1, a] [i2, b] [i3, c]) (n1 : a ≠ i1) (n2 : b ≠ i2) (n3 : c ≠ i3) :
    Turn P w K (.Tuple elts kk tpos) (ItS3 K k1 k2 k3 a b c) [z, TI, TO, i1, i2, i3] z (fun i h => IsZip h z TI TO .none ∧ IsTupOf3 h TI (.ref i1) (.ref i2) (.ref i3) ∧ (∃ x y u, IsTupOf3 h TO x y u) ∧ KI h k1 i1 a i ∧ KI h k2 i2 b i ∧ KI h k3 i3 c i) where
  mem := by simp
  obj := fun i h st q hc => by
    obtain ⟨hz, hTI, ⟨x, y, u, hTO⟩, h1, h2, h3⟩ := st
    obtain ⟨o1, e1, d1⟩ := h1.get
    obtain ⟨o2, e2, d2⟩ := h2.get
    obtain ⟨o3, e3, d3⟩ := h3.get
    have e' : q = z ∨ q = TI ∨ q = TO ∨ q = i1 ∨ q = i2 ∨ q = i3 := by simpa using hc
    rcases e' with q | q | q | q | q | q
    · rw [q]; exact ⟨_, hz, fun v q => nomatch q⟩
    · rw [q]; exact ⟨_, hTI, fun v q => nomatch q⟩
    · rw [q]; exact ⟨_, hTO, fun v q => nomatch q⟩
    · rw [q]; exact ⟨o1, e1, d1⟩
    · rw [q]; exact ⟨o2, e2, d2⟩
    · rw [q]; exact ⟨o3, e3, d3⟩
  keep := fun i h h' st k => by
    obtain ⟨hz, hTI, ⟨x, y, u, hTO⟩, h1, h2, h3⟩ := st
    exact ⟨k z (by simp) _ hz, k TI (by simp) _ hTI, ⟨x, y, u, k TO (by simp) _ hTO⟩, h1.at fun o q => k i1 (by simp) o q, h2.at fun o q => k i2 (by simp) o q, h3.at fun o q => k i3 (by simp) o q⟩
  item := by
    intro X hP hw hK hc i pins s σ H E I hf st hg
    subst hP hw hK
    obtain ⟨hz, hTI, ⟨x0, y0, u0, hTO⟩, h1, h2, h3⟩ := st
    obtain ⟨xs, ys, zs, x, y, v, hqx, hqy, hqz, hx, hy, hv⟩ := hg
    obtain ⟨its, rv, p⟩ := sqk_its I hqx
    obtain ⟨its2, rv2, p2⟩ := sqk_its I hqy
    obtain ⟨its3, rv3, p3⟩ := sqk_its I hqz
    obtain ⟨u, hu, ru⟩ := rv.get hx
    obtain ⟨u2, hu2, ru2⟩ := rv2.get hy
    obtain ⟨u3, hu3, ru3⟩ := rv3.get hv
    have hzl : z < s.heap.objs.size := Heap.lt_size hz
    have hh : X.A.in1.handled = none := I.ok.hd hc
    have lx := rv.length
    have ly := rv2.length
    have lz := rv3.length
    have D1 := draws_sit (prog := X.prog) (w := X.w) hh k1 i1 a n1 its.toArray
    have D2 := draws_sit (prog := X.prog) (w := X.w) hh k2 i2 b n2 its2.toArray
    have D3 := draws_sit (prog := X.prog) (w := X.w) hh k3 i3 c n3 its3.toArray
    have b1 : i < its.toArray.size := by
      have := (List.getElem?_eq_some_iff.1 hx).1
      simp
      omega
    have b2 : i < its2.toArray.size := by
      have := (List.getElem?_eq_some_iff.1 hy).1
      simp
      omega
    have b3 : i < its3.toArray.size := by
      have := (List.getElem?_eq_some_iff.1 hv).1
      simp
      omega
    refine wpAny_pyNext_zipD3_item S D1 D2 D3 hz hTI hTO (p h1) (p2 h2) (p3 h3) b1 b2 b3 fun x1 x2 x3 h' tk g1 g2 g3 z' TO' st1 st2 st3 hT hsz hk => ?_
    have q1 : u = x1 := by
      have : its.toArray[i]? = some u := by simpa using hu
      exact Option.some.inj (this.symm.trans g1)
    have q2 : u2 = x2 := by
      have : its2.toArray[i]? = some u2 := by simpa using hu2
      exact Option.some.inj (this.symm.trans g2)
    have q3 : u3 = x3 := by
      have : its3.toArray[i]? = some u3 := by simpa using hu3
      exact Option.some.inj (this.symm.trans g3)
    subst q1 q2 q3
    refine ⟨_, rfl, wpAny_letOwnedTupleGo_zip (s := { s with heap := h', toks := tk }) z' fun h'' z'' sb => ?_⟩
    have hT2 : h''.get? s.heap.objs.size = some { cls := .type "tuple", data := .seq #[u, u2, u3] } := (sb.2 _ (Nat.ne_of_gt hzl)).trans hT
    have new : ObjOk X.prog X.w (upd H s.heap.objs.size (.tup [x, y, v])) h'' s.heap.objs.size (.tup [x, y, v]) :=
      ⟨by show 3 ≤ sizeLine; decide, [u, u2, u3], .cons ru (.cons ru2 (.cons ru3 .nil)), ⟨_, hT2, rfl, _, rfl⟩⟩
    have I1 : Inv X pins σ (upd H s.heap.objs.size (.tup [x, y, v])) { s with heap := h'', toks := tk } :=
      I.turnedNew (t' := tk) (ch := [z, TI, TO, i1, i2, i3]) (fun c o hb q => (sb.2 c (fun q' => hb (by simp [q']))).trans (hk c o (fun q' => hb (by simp [q'])) (fun q' => hb (by simp [q'])) (fun q' => hb (by simp [q'])) (fun q' => hb (by simp [q'])) (fun q' => hb (by simp [q'])) q)) hf (Nat.le_refl _) new
    refine ⟨.ref s.heap.objs.size, _, I1, rfl, ⟨_, x, y, v, rfl, I.hok.fresh (Nat.le_refl _), rfl, fun l hl => by rw [sqk_inj I hl hqx]; exact hx, fun l hl => by rw [sqk_inj I hl hqy]; exact hy, fun l hl => by rw [sqk_inj I hl hqz]; exact hv⟩, ⟨z'', ?_, ⟨u, u2, u3, ?_⟩, ?_, ?_, ?_⟩, fun c hcm => ?_⟩
    · exact (sb.2 _ S.TIz).trans (hk _ _ S.TIz S.TITO S.TIi1 S.TIi2 S.TIi3 hTI)
    · exact (sb.2 _ S.TOz).trans TO'
    · exact st1.ki.at fun o q => (sb.2 _ S.zi1.symm).trans q
    · exact st2.ki.at fun o q => (sb.2 _ S.zi2.symm).trans q
    · exact st3.ki.at fun o q => (sb.2 _ S.zi3.symm).trans q
    · have hlt : c < s.heap.objs.size := by
        have e' : c = z ∨ c = TI ∨ c = TO ∨ c = i1 ∨ c = i2 ∨ c = i3 := by simpa using hcm
        rcases e' with q | q | q | q | q | q
        · rw [q]; exact hzl
        · rw [q]; exact Heap.lt_size hTI
        · rw [q]; exact Heap.lt_size hTO
        · rw [q]; obtain ⟨_, e1, _⟩ := h1.get; exact Heap.lt_size e1
        · rw [q]; obtain ⟨_, e2, _⟩ := h2.get; exact Heap.lt_size e2
        · rw [q]; obtain ⟨_, e3, _⟩ := h3.get; exact Heap.lt_size e3
      rw [upd_ne (Nat.ne_of_lt hlt)]
      exact (hf c hcm).1
  done := by
    intro X hP hw hK hc i pins s σ H E I hf st hg
    subst hP hw hK
    obtain ⟨hz, hTI, ⟨x0, y0, u0, hTO⟩, h1, h2, h3⟩ := st
    obtain ⟨xs, ys, zs, hqx, hqy, hqz, he1, he2, he3⟩ := hg
    obtain ⟨its, rv, p⟩ := sqk_its I hqx
    obtain ⟨its2, rv2, p2⟩ := sqk_its I hqy
    obtain ⟨its3, rv3, p3⟩ := sqk_its I hqz
    have hh : X.A.in1.handled = none := I.ok.hd hc
    have l1 := rv.length
    have l2 := rv2.length
    have l3 := rv3.length
    have D1 := draws_sit (prog := X.prog) (w := X.w) hh k1 i1 a n1 its.toArray
    have D2 := draws_sit (prog := X.prog) (w := X.w) hh k2 i2 b n2 its2.toArray
    have D3 := draws_sit (prog := X.prog) (w := X.w) hh k3 i3 c n3 its3.toArray
    have c1 : its.toArray.size = i := by simp; omega
    have c2 : its2.toArray.size = i := by simp; omega
    have c3 : its3.toArray.size = i := by simp; omega
    exact wpAny_pyNext_zipD3_end S D1 D2 D3 hz hTI hTO (p h1) (p2 h2) (p3 h3) (by omega) (by omega) (by omega) (.inl c1.symm) fun h' tk hk => ⟨rfl, I.turnedL (t' := tk) (ch := [z, TI, TO, i1, i2, i3]) (fun c o hb q => hk c o (fun q' => hb (by simp [q'])) (fun q' => hb (by simp [q'])) (fun q' => hb (by simp [q'])) (fun q' => hb (by simp [q'])) (fun q' => hb (by simp [q'])) q) hf⟩
  self := fun A i s Q E st h => wpAny_pyIter_zip st.1 h
def iZip3 (K : PySem.W.Frag) (ta : TA) : TI := fun σ H R => ta σ H fun vs H1 => ∃ (k1 k2 k3 : Bool) (a b c : Addr) (xs ys zs : List V), vs = [.ref a, .ref b, .ref c] ∧ SqK K H1 k1 a xs ∧ SqK K H1 k2 b ys ∧ SqK K H1 k3 c zs ∧ R (ItS3 K k1 k2 k3 a b c) H1
theorem pi_zip3 {X : Cx} {e e2 e3 : Expr} {ta : TA} {p pos tpos : Pos} {elts : List Expr} {kk : Nat} (hg : Gl X "zip") (hm : X.mg "zip" = none) (ha : PA X [e, e2, e3] ta)
    (hs : starEach [e, e2, e3] X.env = (false, eval e X.env) :: starEach [e2, e3] X.env := by rfl) (hpl : (backTo pos (starEach [e2, e3] X.env)).any (·.1) = false := by rfl) :
    PI X (.Tuple elts kk tpos) (.Call (.Name "zip" p) [e, e2, e3] [] pos) (iZip3 X.K ta) := by
  refine ⟨fun pins s σ H R I h => ?_⟩
  refine Call_ (ld_blt I hg hm PyProof.Rows.boot_zip (PyProof.Rows.callWith_type1 (thn (ha.run pos pins s σ H _ I h) fun us s2 ⟨vs, H2, I2, r1, q1⟩ => ?_) hs hpl))
  obtain ⟨k1, k2, k3, a, b, c, xs, ys, zs, ex, hqx, hqy, hqz, q⟩ := q1
  subst ex
  cases r1 with
  | cons r rr =>
    cases rr with
    | cons r' rr =>
      cases rr with
      | cons r'' rr =>
        cases rr
        cases r
        cases r'
        cases r''
        have fresh6 : ∀ c, c ∈ [s2.heap.objs.size + 5, s2.heap.objs.size + 3, s2.heap.objs.size + 4, s2.heap.objs.size, s2.heap.objs.size + 1, s2.heap.objs.size + 2] → FpOk X pins H2 c := fun c hcm => by
          have e' : c = s2.heap.objs.size + 5 ∨ c = s2.heap.objs.size + 3 ∨ c = s2.heap.objs.size + 4 ∨ c = s2.heap.objs.size ∨ c = s2.heap.objs.size + 1 ∨ c = s2.heap.objs.size + 2 := by simpa using hcm
          have hle : s2.heap.objs.size ≤ c := by omega
          exact I2.fpOk hle (I2.hok.fresh hle)
        obtain ⟨o1, P1, B1, w1, l1, g1'⟩ := sqk_begins I2 hqx
        obtain ⟨o2, P2, B2, w2, l2, g2'⟩ := sqk_begins I2 hqy
        obtain ⟨o3, P3, B3, w3, l3, g3'⟩ := sqk_begins I2 hqz
        have S : ZipSep3 (s2.heap.objs.size + 5) (s2.heap.objs.size + 3) (s2.heap.objs.size + 4) s2.heap.objs.size (s2.heap.objs.size + 1) (s2.heap.objs.size + 2) [s2.heap.objs.size, a] [s2.heap.objs.size + 1, b] [s2.heap.objs.size + 2, c] :=
          zip_sep3 (fp1 := [a]) (fp2 := [b]) (fp3 := [c]) (fun x hx => by rw [List.mem_singleton.1 hx]; exact l1) (fun x hx => by rw [List.mem_singleton.1 hx]; exact l2) (fun x hx => by rw [List.mem_singleton.1 hx]; exact l3)
        refine zip_begins3 B1 B2 B3 w1 w2 w3 fun h' hz hTI hTO g1 g2 g3 hsz hk => wpAny_pyIter_zip hz ?_
        exact ⟨s2.heap.objs.size + 5, [s2.heap.objs.size + 5, s2.heap.objs.size + 3, s2.heap.objs.size + 4, s2.heap.objs.size, s2.heap.objs.size + 1, s2.heap.objs.size + 2], _, _, H2, rfl, I2.kept (t' := s2.toks) hk, turn_zip3 (k1 := k1) (k2 := k2) (k3 := k3) S (Nat.ne_of_lt l1) (Nat.ne_of_lt (Nat.lt_of_lt_of_le l2 (Nat.le_add_right _ _))) (Nat.ne_of_lt (Nat.lt_of_lt_of_le l3 (Nat.le_add_right _ _))), ⟨hz, hTI, ⟨_, _, _, hTO⟩, g1' _ _ g1, g2' _ _ g2, g3' _ _ g3⟩, fresh6, q⟩
def YTri (f g h : Nat → Option V) : Nat → Hp → V → Hp → Prop := fun i H v H' => ∃ T x y z, v = .ref T ∧ H T = none ∧ H' = upd H T (.tup [x, y, z]) ∧ f i = some x ∧ g i = some y ∧ h i = some z
theorem walk_zip3 {K : PySem.W.Frag} {k1 k2 k3 : Bool} {a b c : Addr} {xs ys zs : List V} (hl : xs.length = ys.length) (hl2 : xs.length = zs.length) : Walk (ItS3 K k1 k2 k3 a b c) xs.length (fun H => SqK K H k1 a xs ∧ SqK K H k2 b ys ∧ SqK K H k3 c zs) (YTri (fun i => xs[i]?) (fun i => ys[i]?) (fun i => zs[i]?)) := by
  refine ⟨fun i _ hi q => ⟨xs, ys, zs, xs[i], ys[i], zs[i], q.1, q.2.1, q.2.2, by simp [hi], by simp [← hl, hi], by simp [← hl2, hi]⟩, fun _ q => ⟨xs, ys, zs, q.1, q.2.1, q.2.2, rfl, hl.symm, hl2.symm⟩, fun i H v H' _ q y => ?_⟩
  obtain ⟨T, x, y, z, h1, h2, h3, h4, h5, h6⟩ := y
  exact ⟨T, x, y, z, h1, h2, h3, h4 xs q.1, h5 ys q.2.1, h6 zs q.2.2⟩
theorem g_tup3n {K : PySem.W.Frag} {H : Hp} {σ : L2.St} {p r : Addr} {x y z u v : V} {i j k m n : Nat} {P : L2.St → Hp → Prop} (hp : H p = some (.tup [.ref r, u, v])) (hr : H r = some (.tup [x, y, z])) (h : P (((((σ.set i (some x)).set j (some y)).set k (some z)).set m (some u)).set n (some v)) H) :
    gTup K 3 (gCons (gTup K 3 (gCons (gName i) (gCons (gName j) (gCons (gName k) gNil)))) (gCons (gName m) (gCons (gName n) gNil))) (.ref p) σ H P :=
  ⟨p, _, rfl, sqT hp, rfl, .ref r, _, rfl, ⟨r, _, rfl, sqT hr, rfl, x, _, rfl, y, _, rfl, z, _, rfl, rfl, u, _, rfl, v, _, rfl, rfl, h⟩⟩
end Bk

set_option Elab.async false
set_option linter.all false
set_option maxRecDepth 100000
set_option maxHeartbeats 4000000
/-! Bk31: readers as deeds. -/
namespace Bk
open PySem PySem.Spec PyProof.Rows L2
inductive Dd where
  | put (f : Fx) | take (p : Nat) (b : Int) | times | plus
def ddD : Dd → D
  | .put f => .tup [.str "put", fxD f]
  | .take p b => .tup [.str "take", .int (p : Nat), .int b]
  | .times => .tup [.str "times"]
  | .plus => .tup [.str "plus"]
theorem dd_hard (d : Dd) : (ddD d).hard = true := by cases d <;> rfl
def boxC (n : Nat) : Option Int → List Dd
  | none => []
  | some i => [.take n i, .times]
def boxesC : Nat → List (Option Int) → List Dd
  | _, [] => []
  | n, b :: bs => boxC n b ++ boxesC (n + 1) bs
def termC (t : Tm) : List Dd := .put t.1 :: boxesC 0 t.2
def laterC (t : Tm) : List Dd := termC t ++ [.plus]
def sumC : Sm → List Dd
  | [] => [.put (0, 1)]
  | t :: ts => termC t ++ (ts.map laterC).flatten
def makerC (r : Rl) : List Dd := (r.map sumC).flatten
def codeD (r : Rl) : D := .tup ((makerC r).map ddD)
theorem boxesC_snoc : ∀ (bs : List (Option Int)) (n : Nat) (b : Option Int), boxesC n (bs ++ [b]) = boxesC n bs ++ boxC (n + bs.length) b
  | [], n, b => by
    show boxC n b ++ [] = [] ++ boxC (n + 0) b
    rw [List.append_nil]
    rfl
  | c :: bs, n, b => by
    show boxC n c ++ boxesC (n + 1) (bs ++ [b]) = (boxC n c ++ boxesC (n + 1) bs) ++ boxC (n + (bs.length + 1)) b
    rw [boxesC_snoc bs (n + 1) b, List.append_assoc, show n + 1 + bs.length = n + (bs.length + 1) by omega]
theorem boxC_len (n : Nat) (b : Option Int) : (boxC n b).length ≤ 2 := by cases b <;> simp [boxC]
theorem boxesC_len : ∀ (bs : List (Option Int)) (n : Nat), (boxesC n bs).length ≤ 2 * bs.length
  | [], n => Nat.le_refl _
  | b :: bs, n => by
    have a := boxesC_len bs (n + 1)
    have c := boxC_len n b
    show (boxC n b ++ boxesC (n + 1) bs).length ≤ _
    rw [List.length_append, List.length_cons]
    omega
theorem termC_len {t : Tm} (h : t.2.length ≤ 10) : (termC t).length ≤ 21 := by
  have := boxesC_len t.2 0
  show (boxesC 0 t.2).length + 1 ≤ 21
  omega
theorem flat_len {α β : Type} {f : α → List β} {b : Nat} : ∀ {l : List α}, (∀ x ∈ l, (f x).length ≤ b) → ((l.map f).flatten).length ≤ l.length * b
  | [], _ => by simp
  | x :: l, h => by
    have a := h x List.mem_cons_self
    have c := flat_len (l := l) fun y hy => h y (List.mem_cons_of_mem _ hy)
    rw [List.map_cons, List.flatten_cons, List.length_append, List.length_cons, Nat.succ_mul]
    omega
theorem sumC_len {s : Sm} (hl : s.length ≤ 10) (h : ∀ t ∈ s, t.2.length ≤ 10) : (sumC s).length ≤ 300 := by
  cases s with
  | nil => decide
  | cons t ts =>
    have a := termC_len (h t List.mem_cons_self)
    have c := flat_len (f := laterC) (b := 22) (l := ts) fun x hx => by
      have := termC_len (h x (List.mem_cons_of_mem _ hx))
      show (termC x ++ [Dd.plus]).length ≤ 22
      rw [List.length_append]
      show _ + 1 ≤ 22
      omega
    show (termC t ++ (ts.map laterC).flatten).length ≤ 300
    rw [List.length_append]
    rw [List.length_cons] at hl
    have : ts.length * 22 ≤ 9 * 22 := Nat.mul_le_mul_right _ (by omega)
    omega
structure RlB (r : Rl) : Prop where
  many : r.length ≤ 10
  sums : ∀ s ∈ r, s.length ≤ 10 ∧ ∀ t ∈ s, t.2.length ≤ 10
theorem makerC_len {r : Rl} (h : RlB r) : (makerC r).length ≤ 3000 := by
  have c := flat_len (f := sumC) (b := 300) (l := r) fun s hs => sumC_len (h.sums s hs).1 (h.sums s hs).2
  have : r.length * 300 ≤ 10 * 300 := Nat.mul_le_mul_right _ h.many
  exact Nat.le_trans c this
theorem makerC_take {r : Rl} {i : Nat} {s : Sm} (h : r[i]? = some s) : makerC (r.take (i + 1)) = makerC (r.take i) ++ sumC s := by
  unfold makerC
  rw [take_at h, List.map_append, List.flatten_append]
  congr 1
  show sumC s ++ [] = sumC s
  exact List.append_nil _
theorem makerC_le {r : Rl} (i : Nat) (h : RlB r) : RlB (r.take i) := ⟨by rw [List.length_take]; have := h.many; omega, fun s hs => h.sums s (List.mem_of_mem_take hs)⟩
theorem later_take {ts : List Tm} {i : Nat} {ti : Tm} (h : ts[i]? = some ti) (a : List Dd) : a ++ ((ts.take (i + 1)).map laterC).flatten = (a ++ ((ts.take i).map laterC).flatten) ++ laterC ti := by
  rw [take_at h, List.map_append, List.flatten_append, List.append_assoc]
  congr 2
  exact List.append_nil _
/-- the deeds of a sum's terms, none of an empty one -/
def preC : Sm → List Dd
  | [] => []
  | t :: ts => termC t ++ (ts.map laterC).flatten
theorem preC_take {s : Sm} {j : Nat} {t : Tm} (h : s[j]? = some t) : preC (s.take (j + 1)) = preC (s.take j) ++ (termC t ++ if 0 < j then [Dd.plus] else []) := by
  cases s with
  | nil => simp at h
  | cons t0 ts =>
    cases j with
    | zero =>
      cases h
      show termC t ++ (([] : Sm).map laterC).flatten = [] ++ (termC t ++ [])
      simp
    | succ j =>
      show termC t0 ++ ((ts.take (j + 1)).map laterC).flatten = (termC t0 ++ ((ts.take j).map laterC).flatten) ++ _
      rw [later_take (show ts[j]? = some t from h), if_pos (Nat.succ_pos j)]
      rfl
theorem preC_sum {s : Sm} (h : s ≠ []) : preC s = sumC s := by
  cases s with
  | nil => exact absurd rfl h
  | cons t ts => rfl
theorem preC_len {s : Sm} (hl : s.length ≤ 10) (h : ∀ t ∈ s, t.2.length ≤ 10) : (preC s).length ≤ 300 := by
  cases s with
  | nil => exact Nat.zero_le _
  | cons t ts => exact sumC_len (s := t :: ts) hl h
/-! ### contracts -/
def spTermC : Sp := fun vs H Q _ => ∃ (t : Tm) (v : V), vs = [v] ∧ Rep H (tmD t) v ∧ t.2.length ≤ 10 ∧ ∀ l vs H', H l = none → Ex H H' → H' l = some (.lst vs) → Reps H' ((termC t).map ddD) vs → Q (.ref l) H'
def spSumC : Sp := fun vs H Q _ => ∃ (s : Sm) (v : V), vs = [v] ∧ Rep H (smD s) v ∧ s.length ≤ 10 ∧ (∀ t ∈ s, t.2.length ≤ 10) ∧ ∀ l vs H', H l = none → Ex H H' → H' l = some (.lst vs) → Reps H' ((sumC s).map ddD) vs → Q (.ref l) H'
def spMakerC : Sp := fun vs H Q _ => ∃ (r : Rl) (v : V), vs = [v] ∧ Rep H (rlD r) v ∧ RlB r ∧ ∀ v' H', Ex H H' → Rep H' (codeD r) v' → Q v' H'
def spCodeOf : Sp := fun vs H Q _ => ∃ (w : Wd) (r : Rd) (wv rv : V), vs = [wv, rv] ∧ Rep H (woodD w) wv ∧ WoodOk w ∧ Rep H (rdD r) rv ∧ r.2.length = (tabFrom 0 w).length ∧ (∀ x ∈ r.2, RlB x) ∧ ∀ v' H', Ex H H' → Rep H' (.tup (r.2.map codeD)) v' → Q v' H'
theorem reps_app {α : Type} {f : α → D} {H : Hp} {as bs : List α} {xs ys : List V} (r : Reps H (as.map f) xs) (s : Reps H (bs.map f) ys) : Reps H ((as ++ bs).map f) (xs ++ ys) := by
  rw [List.map_append]
  exact Reps.append r s
theorem reps_one {α : Type} {f : α → D} {H : Hp} {a : α} {v : V} (h : Rep H (f a) v) : Reps H ([a].map f) [v] := ⟨v, [], rfl, h, by simp only [List.map, Reps]⟩
theorem reps_two {α : Type} {f : α → D} {H : Hp} {a b : α} {v w : V} (h : Rep H (f a) v) (k : Rep H (f b) w) : Reps H ([a, b].map f) [v, w] := ⟨v, [w], rfl, h, reps_one k⟩
theorem rep_put {H : Hp} {a q : Addr} {f : Fx} (ha : H a = some (.tup [.str "put", .ref q])) (hq : H q = some (.tup [.int f.1, .int f.2])) : Rep H (ddD (.put f)) (.ref a) := Rep.two ha (Rep.s _) (Rep.fx hq)
theorem rep_take {H : Hp} {a : Addr} {p : Nat} {b : Int} (ha : H a = some (.tup [.str "take", .int (p : Nat), .int b])) : Rep H (ddD (.take p b)) (.ref a) := Rep.three ha (Rep.s _) (Rep.i _) (Rep.i _)
theorem rep_w1 {H : Hp} {a : Addr} {s : Str} (ha : H a = some (.tup [.str s])) : Rep H (.tup [.str s]) (.ref a) := Rep.tupO ha ⟨_, _, rfl, Rep.s _, by simp only [Reps]⟩
theorem rep01 {u : V} (b : Bool) : ∃ k : Int, b2z b = k ∧ 0 ≤ k ∧ k ≤ 1 ∧ (List.replicate k.toNat [u]).flatten = if b = true then [u] else [] := by
  cases b with
  | true => exact ⟨1, rfl, by decide, by decide, rfl⟩
  | false => exact ⟨0, rfl, by decide, by decide, rfl⟩
theorem g_rep01 {H : Hp} {Q : VK} {l : Addr} {u : V} {b : Bool} (hl : H l = some (.lst [u])) (q : ∀ p, H p = none → Q (.ref p) (upd H p (.lst (if b = true then [u] else [])))) : rRep (.ref l) (.int (b2z b)) H Q := by
  obtain ⟨k, ek, k0, k1, er⟩ := rep01 (u := u) b
  rw [ek]
  refine ⟨l, k, _, rfl, rfl, hl, by omega, by omega, Nat.le_trans (show 1 * k.toNat ≤ 1 by omega) (by decide), fun p hp => ?_⟩
  rw [er]
  exact q p hp
theorem reps01 {α : Type} {f : α → D} {H : Hp} {a : α} {v : V} (b : Bool) (h : Rep H (f a) v) : Reps H ((if b = true then [a] else []).map f) (if b = true then [v] else []) := by
  cases b with
  | true => exact reps_one h
  | false => simp only [List.map, Reps, if_neg Bool.false_ne_true]
end Bk

set_option Elab.async false
set_option linter.all false
set_option maxRecDepth 100000
set_option maxHeartbeats 4000000
/-! Bk32: deeds done on a bench. -/
namespace Bk
open PySem PySem.Spec PyProof.Rows L2
def NumOk (f : Fx) : Prop := 0 < f.2 ∧ Bits 6000 f.1 ∧ Bits 4400 f.2
def Run (parts : List (List Fx)) : List Fx → List Dd → List Fx → Prop
  | st, [], fin => st = fin
  | st, .put f :: ds, fin => Run parts (f :: st) ds fin
  | st, .take p i :: ds, fin => ∃ pl, parts[p]? = some pl ∧ 0 ≤ i ∧ i < (pl.length : Nat) ∧ Run parts (pl.getD i.toNat (0, 1) :: st) ds fin
  | st, .times :: ds, fin => ∃ x y r, st = x :: y :: r ∧ NumOk x ∧ NumOk y ∧ Run parts (mulF x y :: r) ds fin
  | st, .plus :: ds, fin => ∃ x y r, st = x :: y :: r ∧ NumOk x ∧ NumOk y ∧ Run parts (addF x y :: r) ds fin
theorem Run.app {parts : List (List Fx)} {b : List Dd} {s1 fin : List Fx} : ∀ {a : List Dd} {st : List Fx}, Run parts st a s1 → Run parts s1 b fin → Run parts st (a ++ b) fin
  | [], st, h, k => by
    have e : st = s1 := h
    subst e
    exact k
  | .put f :: a, st, h, k => Run.app (a := a) (show Run parts (f :: st) a s1 from h) k
  | .take p i :: a, st, h, k => by
    obtain ⟨pl, h1, h2, h3, h4⟩ := h
    exact ⟨pl, h1, h2, h3, Run.app h4 k⟩
  | .times :: a, st, h, k => by
    obtain ⟨x, y, r, h1, h2, h3, h4⟩ := h
    exact ⟨x, y, r, h1, h2, h3, Run.app h4 k⟩
  | .plus :: a, st, h, k => by
    obtain ⟨x, y, r, h1, h2, h3, h4⟩ := h
    exact ⟨x, y, r, h1, h2, h3, Run.app h4 k⟩
theorem mulF_comm (f g : Fx) : mulF f g = mulF g f := by
  unfold mulF
  rw [Int.mul_comm f.1, Int.mul_comm f.2]
theorem addF_comm (f g : Fx) : addF f g = addF g f := by
  unfold addF
  rw [Int.add_comm (f.1 * g.2), Int.mul_comm f.2]
def LowF (f : Fx) : Prop := 0 < f.2 ∧ Int.gcd f.1 f.2 = 1
theorem lowF_low {u l : Int} (h : 0 < l) : LowF (lowF u l) := by
  obtain ⟨_, _, e3, e4⟩ := low_parts (u := u) h
  exact ⟨e3, e4⟩
theorem mulF_low {f g : Fx} (h : 0 < f.2) (k : 0 < g.2) : LowF (mulF f g) := lowF_low (Int.mul_pos h k)
theorem addF_zero {f : Fx} (h : LowF f) : addF (0, 1) f = f := by
  unfold addF
  have e1 : (0 : Int) * f.2 + f.1 * 1 = f.1 := by omega
  have e2 : (1 : Int) * f.2 = f.2 := by omega
  show lowF (0 * f.2 + f.1 * 1) (1 * f.2) = f
  rw [e1, e2]
  obtain ⟨a, b⟩ := (gcd_lowest h.1).2 h.2
  show (fru f.1 f.2, frl f.1 f.2) = f
  rw [a, b]
theorem run_boxes {parts : List (List Fx)} (hp : ∀ p ∈ parts, ∀ g ∈ p, NumOk g) (hpos : ∀ p ∈ parts, ∀ g ∈ p, 0 < g.2) : ∀ (bs : List (Option Int)) (n : Nat) (f : Fx) (st : List Fx), parts.length = n + bs.length → (∀ (j : Nat) (p : List Fx) (i : Int), parts[n + j]? = some p → bs[j]? = some (some i) → 0 ≤ i ∧ i < (p.length : Nat)) →
    (∀ j, NumOk (prodF f (((parts.drop n).zip bs).take j))) → Run parts (f :: st) (boxesC n bs) (prodF f ((parts.drop n).zip bs) :: st)
  | [], n, f, st, _, _, _ => by
    rw [List.zip_nil_right]
    exact rfl
  | b :: bs, n, f, st, hl, hin, hb => by
    rw [List.length_cons] at hl
    have hn : n < parts.length := by omega
    have ed : parts.drop n = parts[n] :: parts.drop (n + 1) := List.drop_eq_getElem_cons hn
    have ep : parts[n]? = some parts[n] := List.getElem?_eq_getElem hn
    rw [ed] at hb ⊢
    rw [List.zip_cons_cons] at hb ⊢
    have rec_ : Run parts (stepF f (parts[n], b) :: st) (boxesC (n + 1) bs) (prodF (stepF f (parts[n], b)) ((parts.drop (n + 1)).zip bs) :: st) :=
      run_boxes hp hpos bs (n + 1) _ st (by omega) (fun j p i h1 h2 => hin (j + 1) p i (by rw [← h1]; congr 1; omega) h2) fun j => hb (j + 1)
    show Run parts (f :: st) (boxC n b ++ boxesC (n + 1) bs) _
    refine Run.app ?_ rec_
    cases b with
    | none => exact rfl
    | some i =>
      obtain ⟨i0, i1⟩ := hin 0 parts[n] i ep rfl
      have hm : parts[n].getD i.toNat (0, 1) ∈ parts[n] := by
        rw [List.getD_eq_getElem?_getD, List.getElem?_eq_getElem (by omega)]
        exact List.getElem_mem _
      refine ⟨parts[n], ep, i0, i1, _, _, _, rfl, hp _ (List.getElem_mem hn) _ hm, hb 0, ?_⟩
      show mulF _ f :: st = mulF f _ :: st
      rw [mulF_comm]
theorem run_term {parts : List (List Fx)} (hp : ∀ p ∈ parts, ∀ g ∈ p, NumOk g) {t : Tm} (hl : t.2.length = parts.length) (hin : ∀ (j : Nat) (p : List Fx) (i : Int), parts[j]? = some p → t.2[j]? = some (some i) → 0 ≤ i ∧ i < (p.length : Nat)) (hb : ∀ j, NumOk (prodF t.1 ((parts.zip t.2).take j))) (st : List Fx) :
    Run parts st (termC t) (prodF t.1 (parts.zip t.2) :: st) := by
  have z := run_boxes hp (fun p h g k => (hp p h g k).1) t.2 0 t.1 st (by omega) (fun j p i h1 h2 => hin j p i (by rw [Nat.zero_add] at h1; exact h1) h2) (by rw [List.drop_zero]; exact hb)
  rw [List.drop_zero] at z
  exact z
theorem prodF_low {f : Fx} (h : LowF f) : ∀ (l : List (List Fx × Option Int)), (∀ x ∈ l, ∀ i : Int, x.2 = some i → 0 < (x.1.getD i.toNat (0, 1)).2) → LowF (prodF f l)
  | [], _ => h
  | x :: l, hx => by
    have k : LowF (stepF f x) := by
      unfold stepF
      split
      · exact h
      · rename_i i e
        exact mulF_low h.1 (hx x List.mem_cons_self i e)
    exact prodF_low k l fun y hy => hx y (List.mem_cons_of_mem _ hy)
theorem getD_pos {p : List Fx} (h : ∀ g ∈ p, 0 < g.2) (i : Nat) : 0 < (p.getD i (0, 1)).2 := by
  rw [List.getD_eq_getElem?_getD]
  cases e : p[i]? with
  | none => exact show (0 : Int) < 1 by decide
  | some g => exact h g (List.mem_of_getElem? e)
theorem run_later {A N : Nat} {parts : List (List Fx)} {s : Sm} (fp : FitP A N parts) (fs : FitS A N parts s) : ∀ k, k + 1 ≤ s.length → ∀ st, Run parts ((s.take 1).foldl (plusF parts) (0, 1) :: st) ((((s.drop 1).take k).map laterC).flatten) ((s.take (k + 1)).foldl (plusF parts) (0, 1) :: st)
  | 0, _, st => by
    rw [List.take_zero]
    exact rfl
  | k + 1, hk, st => by
    have rec_ := run_later fp fs k (by omega) st
    have e : s[k + 1]? = some s[k + 1] := List.getElem?_eq_getElem hk
    have e2 : (s.drop 1)[k]? = some s[k + 1] := by rw [List.getElem?_drop, Nat.add_comm 1 k]; exact e
    have l2 := later_take e2 []
    rw [List.nil_append, List.nil_append] at l2
    rw [l2]
    refine Run.app rec_ ?_
    obtain ⟨h1, h2, h3⟩ := fs.term s[k + 1] (List.getElem_mem hk)
    have hp : ∀ p ∈ parts, ∀ g ∈ p, NumOk g := fun p hp g hg => fp.num (B := A) (by omega) (fp.part p hp g hg)
    have hb : ∀ j, NumOk (prodF s[k + 1].1 ((parts.zip s[k + 1].2).take j)) := fun j => fp.num (B := A) (by omega) (h3 j)
    have r1 := run_term hp h1 h2 hb ((s.take (k + 1)).foldl (plusF parts) (0, 1) :: st)
    refine Run.app r1 ?_
    have m6 := fs.many
    have h3' := h3 (parts.zip s[k + 1].2).length
    rw [List.take_length] at h3'
    refine ⟨_, _, _, rfl, fp.num (B := A) (by omega) h3', fp.num (B := (k + 1) * A) (Nat.mul_le_mul_right _ (by omega)) (sum_sz fs (k + 1) (by omega)), ?_⟩
    show addF _ _ :: st = _
    rw [take_at e, List.foldl_append, addF_comm]
    rfl
theorem run_sum {A N : Nat} {parts : List (List Fx)} {s : Sm} (fp : FitP A N parts) (fs : FitS A N parts s) (hlow : ∀ t ∈ s, LowF t.1) (st : List Fx) : Run parts st (sumC s) (sumF parts s :: st) := by
  cases s with
  | nil => exact rfl
  | cons t ts =>
    have hp : ∀ p ∈ parts, ∀ g ∈ p, NumOk g := fun p hp g hg => fp.num (B := A) (by omega) (fp.part p hp g hg)
    obtain ⟨h1, h2, h3⟩ := fs.term t List.mem_cons_self
    have hb : ∀ j, NumOk (prodF t.1 ((parts.zip t.2).take j)) := fun j => fp.num (B := A) (by omega) (h3 j)
    have r1 := run_term hp h1 h2 hb st
    have r2 := run_later fp fs ts.length (by rw [List.length_cons]; exact Nat.le_refl _) st
    have e1 : ((t :: ts).take 1).foldl (plusF parts) (0, 1) = prodF t.1 (parts.zip t.2) := by
      show addF (0, 1) (prodF t.1 (parts.zip t.2)) = _
      refine addF_zero (prodF_low (hlow t List.mem_cons_self) _ fun x hx i e => ?_)
      obtain ⟨x1, x2⟩ := x
      exact getD_pos (fun g hg => (hp x1 (List.of_mem_zip hx).1 g hg).1) _
    rw [e1] at r2
    have e2 : ((t :: ts).drop 1).take ts.length = ts := List.take_length
    have e3 : (t :: ts).take (ts.length + 1) = t :: ts := List.take_length (l := t :: ts)
    rw [e2, e3] at r2
    exact Run.app r1 r2
theorem run_maker {A N : Nat} {parts : List (List Fx)} (fp : FitP A N parts) : ∀ {r : Rl}, (∀ s ∈ r, FitS A N parts s) → (∀ s ∈ r, ∀ t ∈ s, LowF t.1) → ∀ st, Run parts st (makerC r) ((madeF parts r).reverse ++ st)
  | [], _, _, st => rfl
  | s :: r, hs, hl, st => by
    have r1 := run_sum fp (hs s List.mem_cons_self) (hl s List.mem_cons_self) st
    have r2 := run_maker fp (r := r) (fun x hx => hs x (List.mem_cons_of_mem _ hx)) (fun x hx => hl x (List.mem_cons_of_mem _ hx)) (sumF parts s :: st)
    have e : (madeF parts (s :: r)).reverse ++ st = (madeF parts r).reverse ++ (sumF parts s :: st) := by
      show (sumF parts s :: madeF parts r).reverse ++ st = _
      rw [List.reverse_cons, List.append_assoc]
      rfl
    rw [e]
    exact Run.app r1 r2
/-! ### the same fractions compared -/
def pdF (f : Fx) : PyData := .tuple [.int f.1, .int f.2]
theorem fxs_dpA {K : PySem.W.Frag} {H : Hp} : ∀ {fs : List Fx} {vs : List V}, Reps H (fs.map fxD) vs → DpAll K H vs (fs.map pdF)
  | [], vs, h => by
    have : vs = [] := by simpa only [List.map, Reps] using h
    subst this
    exact .nil
  | f :: fs, vs, h => by
    obtain ⟨v, r, rfl, hv, hr⟩ := h
    obtain ⟨p, rfl, hp⟩ := fx_at hv
    exact .cons (.tup (sqT hp) (.cons (.int _) (.cons (.int _) .nil))) (fxs_dpA hr)
theorem pdF_refl : ∀ fs : List Fx, PyData.eqvAll (fs.map pdF) (fs.map pdF) = true
  | [] => rfl
  | f :: fs => by
    show (PyData.eqv (pdF f) (pdF f) && PyData.eqvAll (fs.map pdF) (fs.map pdF)) = true
    rw [pdF_refl fs, Bool.and_true]
    show ((f.1 == f.1) && ((f.2 == f.2) && true)) = true
    simp
theorem pdF_shaped (fs : List Fx) : SeqAt.shaped (.tuple (fs.map pdF)) = true := by
  have a : ∀ fs : List Fx, PyData.canLayAll0 (fs.map pdF) = true ∧ PyData.depthAll (fs.map pdF) ≤ 1 := fun fs => by
    induction fs with
    | nil => exact ⟨rfl, Nat.zero_le _⟩
    | cons f fs ih =>
      refine ⟨?_, ?_⟩
      · show (PyData.canLay0 (pdF f) && PyData.canLayAll0 (fs.map pdF)) = true
        rw [ih.1, Bool.and_true]
        rfl
      · show max (PyData.depth (pdF f)) (PyData.depthAll (fs.map pdF)) ≤ 1
        have : PyData.depth (pdF f) = 1 := rfl
        have := ih.2
        omega
  obtain ⟨h1, h2⟩ := a fs
  show (PyData.canLayAll0 (fs.map pdF) && decide (PyData.depthAll (fs.map pdF) + 1 ≤ 64)) = true
  rw [h1, decide_eq_true (by omega)]
  rfl
theorem g_neFxs {K : PySem.W.Frag} {H : Hp} {Q : VK} {v w : V} {fs : List Fx} (h : Rep H (fxsD fs) v) (k : Rep H (fxsD fs) w) (q : Q (.bl false) H) : rNeD K v w H Q := by
  obtain ⟨a, xs, rfl, ha, ra⟩ := Rep.tupI h
  obtain ⟨b, ys, rfl, hb, rb⟩ := Rep.tupI k
  refine ⟨.tuple (fs.map pdF), .tuple (fs.map pdF), .tup (sqT ha) (fxs_dpA ra), .tup (sqT hb) (fxs_dpA rb), pdF_shaped fs, pdF_shaped fs, ?_⟩
  have e : PyData.eqv (.tuple (fs.map pdF)) (.tuple (fs.map pdF)) = true := pdF_refl fs
  rw [e]
  exact q
theorem reps_last {α : Type} {f : α → D} {H : Hp} {a : α} : ∀ {as : List α} {vs : List V}, Reps H ((as ++ [a]).map f) vs → ∃ xs v, vs = xs ++ [v] ∧ Reps H (as.map f) xs ∧ Rep H (f a) v
  | [], vs, h => by
    obtain ⟨v, r, rfl, hv, hr⟩ := h
    have : r = [] := by simpa only [List.map, Reps] using hr
    subst this
    exact ⟨[], v, rfl, by simp only [List.map, Reps], hv⟩
  | b :: as, vs, h => by
    obtain ⟨v, r, rfl, hv, hr⟩ := h
    obtain ⟨xs, u, rfl, h1, h2⟩ := reps_last (as := as) hr
    exact ⟨v :: xs, u, rfl, ⟨v, xs, rfl, hv, h1⟩, h2⟩
def spBench : Sp := fun vs H Q _ => ∃ (da pa : Addr) (ds : List Dd) (dvs : List V) (parts : List (List Fx)) (pvs : List V) (fin : List Fx), vs = [.ref da, .ref pa] ∧ H da = some (.tup dvs) ∧ Reps H (ds.map ddD) dvs ∧ ds.length ≤ 10000 ∧ H pa = some (.lst pvs) ∧ Reps H (parts.map fxsD) pvs ∧ Run parts [] ds fin ∧
  ∀ q H', Ex H H' → Rep H' (fxsD fin.reverse) (.ref q) → Q (.ref q) H'
end Bk

set_option Elab.async false
set_option linter.all false
set_option maxRecDepth 100000
set_option maxHeartbeats 4000000
/-! Bk33: small fractions in boxes; readers told as deeds. -/
namespace Bk
open PySem PySem.Spec PyProof.Rows L2
/-- a number that 1 to 100 go into -/
def lcmA : Nat := 69720375229712477164533808935312303556800
theorem lcm_dvd {l : Nat} (h0 : 0 < l) (h1 : l ≤ 100) : l ∣ lcmA := by
  have a : (List.range 101).all (fun l => l == 0 || lcmA % l == 0) = true := by decide +kernel
  have z := List.all_eq_true.1 a l (List.mem_range.2 (by omega))
  simp only [Bool.or_eq_true, beq_iff_eq] at z
  rcases z with z | z
  · omega
  · exact Nat.dvd_of_mod_eq_zero z
theorem FxOk.sz {f : Fx} (h : FxOk f) : Szf 1000 lcmA f := by
  have h3 := h.2.2.2
  have h1 := h.1
  refine ⟨h.1, lcm_dvd (by omega) (by omega), ?_⟩
  have := h.2.2.1
  have : 1000 * 1 ≤ 1000 * f.2.natAbs := Nat.mul_le_mul_left _ (by omega)
  omega
theorem FxOk.low {f : Fx} (h : FxOk f) : LowF f := ⟨h.1, h.2.1⟩
theorem one_le_lcm : 0 < lcmA := by decide
theorem prod_sz {f : Fx} {k : Nat} (h : Szf (1000 ^ k) (lcmA ^ k) f) : ∀ (l : List (List Fx × Option Int)), (∀ x ∈ l, ∀ i : Int, x.2 = some i → Szf 1000 lcmA (x.1.getD i.toNat (0, 1))) → Szf (1000 ^ (k + l.length)) (lcmA ^ (k + l.length)) (prodF f l)
  | [], _ => h
  | x :: l, hx => by
    have z : Szf (1000 ^ (k + 1)) (lcmA ^ (k + 1)) (stepF f x) := by
      unfold stepF
      split
      · exact h.mono (Nat.pow_le_pow_right (by decide) (Nat.le_succ k)) (Nat.pow_dvd_pow _ (Nat.le_succ k))
      · rename_i i e
        rw [Nat.pow_succ, Nat.pow_succ]
        exact h.mul (hx x List.mem_cons_self i e)
    have r := prod_sz z l fun y hy => hx y (List.mem_cons_of_mem _ hy)
    rw [List.length_cons, show k + (l.length + 1) = k + 1 + l.length by omega]
    exact r
theorem fit_small {cs due : List Int} {parts : List (List Fx)} (hl : parts.length = due.length) (h2 : due.length ≤ 2) (hp : ∀ (j : Nat) (p : List Fx), parts[j]? = some p → (∀ f ∈ p, FxOk f) ∧ ∃ pn, due[j]? = some pn ∧ (p.length : Int) = cntAt cs pn) :
    FitP (1000 ^ 3) (lcmA ^ 3) parts ∧ ∀ s : Sm, s.length ≤ 6 → (∀ t ∈ s, TmOk cs due t) → FitS (1000 ^ 3) (lcmA ^ 3) parts s := by
  have hf : ∀ p ∈ parts, ∀ f ∈ p, FxOk f := fun p hp' f hf => by
    obtain ⟨j, hj⟩ := List.mem_iff_getElem?.1 hp'
    exact (hp j p hj).1 f hf
  refine ⟨⟨by decide, by decide +kernel, by decide +kernel, fun p hp' f hf' => (hf p hp' f hf').sz.mono (by decide) (by have := Nat.pow_dvd_pow lcmA (show 1 ≤ 3 by decide); rw [Nat.pow_one] at this; exact this)⟩, fun s h6 hs => ⟨h6, fun t ht => ?_⟩⟩
  have ok := hs t ht
  have hin : ∀ (j : Nat) (p : List Fx) (i : Int), parts[j]? = some p → t.2[j]? = some (some i) → 0 ≤ i ∧ i < (p.length : Nat) := fun j p i h1 h2 => by
    obtain ⟨_, pn, hpn, e⟩ := hp j p h1
    have z := List.all_eq_true.1 ok.box _ (List.mem_of_getElem? (zip_at hpn h2))
    have z2 : 0 ≤ i ∧ i < cntAt cs pn := of_decide_eq_true z
    omega
  refine ⟨by rw [ok.len, hl], hin, fun j => ?_⟩
  have s1 : Szf (1000 ^ 1) (lcmA ^ 1) t.1 := by rw [Nat.pow_one, Nat.pow_one]; exact ok.num.sz
  have z := prod_sz s1 ((parts.zip t.2).take j) fun x hx i e => by
    obtain ⟨q, hq⟩ := List.mem_iff_getElem?.1 (List.mem_of_mem_take hx)
    obtain ⟨x1, x2⟩ := x
    obtain ⟨a1, a2⟩ := List.getElem?_zip_eq_some.1 hq
    have e' : x2 = some i := e
    subst e'
    obtain ⟨i0, i1⟩ := hin q x1 i a1 a2
    have hm : x1.getD i.toNat (0, 1) ∈ x1 := by
      rw [List.getD_eq_getElem?_getD, List.getElem?_eq_getElem (by omega)]
      exact List.getElem_mem _
    exact (hf x1 (List.mem_of_getElem? a1) _ hm).sz
  have ll : ((parts.zip t.2).take j).length ≤ 2 := by
    rw [List.length_take, List.length_zip]
    omega
  exact z.mono (Nat.pow_le_pow_right (by decide) (by omega)) (Nat.pow_dvd_pow _ (by omega))
theorem acc_repsI {α : Type} {H : Hp} {f : α → D} : ∀ {acc : List V} {P : Nat → α → Prop}, (∀ (j : Nat) (v : V), acc[j]? = some v → ∃ x, P j x ∧ Rep H (f x) v) → ∃ xs : List α, xs.length = acc.length ∧ (∀ (j : Nat) (x : α), xs[j]? = some x → P j x) ∧ Reps H (xs.map f) acc
  | [], _, _ => ⟨[], rfl, fun j x z => by simp at z, by simp only [List.map, Reps]⟩
  | v :: acc, P, h => by
    obtain ⟨x, px, rx⟩ := h 0 v rfl
    obtain ⟨xs, l, p, r⟩ := acc_repsI (acc := acc) (P := fun j => P (j + 1)) fun j u hj => h (j + 1) u hj
    refine ⟨x :: xs, by rw [List.length_cons, List.length_cons, l], fun j y hj => ?_, ⟨v, acc, rfl, rx, r⟩⟩
    cases j with
    | zero => cases hj; exact px
    | succ j => exact p j y hj
theorem dd_size (d : Dd) : (ddD d).size ≤ 5 := by cases d <;> simp [ddD, fxD, D.size, D.sizes]
theorem code_size {r : Rl} (h : RlB r) : (codeD r).size ≤ 15001 := by
  have a := sizes_map (f := ddD) (b := 5) (xs := makerC r) fun d _ => dd_size d
  have b := makerC_len h
  have : (makerC r).length * 5 ≤ 3000 * 5 := Nat.mul_le_mul_right _ b
  unfold codeD
  simp only [D.size]
  omega
theorem code_hard (r : Rl) : (codeD r).hard = true := hards_map dd_hard _
theorem codes_fit {l : List Rl} (h : ∀ x ∈ l, RlB x) (hl : l.length ≤ 12) : (D.tup (l.map codeD)).hard = true ∧ (D.tup (l.map codeD)).size ≤ 400000 := by
  refine ⟨hards_map code_hard l, ?_⟩
  have a := sizes_map (f := codeD) (b := 15001) (xs := l) fun x hx => code_size (h x hx)
  have : l.length * 15001 ≤ 12 * 15001 := Nat.mul_le_mul_right _ hl
  simp only [D.size]
  omega
theorem RdOk.rlb {w : Wd} (ok : WoodOk w) {r : Rd} (h : RdOk w r) : ∀ x ∈ r.2, RlB x := fun x hx => by
  have z := (h.n0 ok).rule x hx
  exact ⟨by have := z.1; omega, fun s hs => ⟨by have := (z.2 s hs).1; omega, fun t ht => by have := ((z.2 s hs).2 t ht).1; omega⟩⟩
def spRightC : Sp := fun vs H Q _ => ∃ (p : Addr) (w : Wd) (r : Rd) (wv rv : V), vs = [.ref p, wv, rv] ∧ Box H p ∧ Rep H (woodD w) wv ∧ WoodOk w ∧ Rep H (rdD r) rv ∧ RdOk w r ∧ ∀ H', Kp p H H' → Q (.bl true) H'
/-- a box, a wood, a reader asked about -/
def AskedAt (H : Hp) (x : V) : Prop := ∃ (a p : Addr) (w : Wd) (r : Rd) (wv rv : V), x = .ref a ∧ H a = some (.tup [.ref p, wv, rv]) ∧ Box H p ∧ Rep H (woodD w) wv ∧ WoodOk w ∧ Rep H (rdD r) rv ∧ RdOk w r
theorem AskedAt.ex {H H' : Hp} {x : V} (h : AskedAt H x) (e : Ex H H') : AskedAt H' x := by
  obtain ⟨a, p, w, r, wv, rv, h1, h2, h3, h4, h5, h6, h7⟩ := h
  exact ⟨a, p, w, r, wv, rv, h1, e _ _ h2, h3.ex e, h4.ex e, h5, h6.ex e, h7⟩
theorem AskedAt.kp {H H' : Hp} {x : V} {q : Addr} (h : AskedAt H x) (k : Kp q H H') : AskedAt H' x := by
  obtain ⟨a, p, w, r, wv, rv, h1, h2, h3, h4, h5, h6, h7⟩ := h
  refine ⟨a, p, w, r, wv, rv, h1, k.2.2 _ _ h2, ?_, h4.tk k.2.2 (wood_hard w), h5, h6.tk k.2.2 (rd_hard r), h7⟩
  by_cases c : p = q
  · subst c
    exact k.2.1
  · exact h3.but k.1 c
theorem Box.neL {H : Hp} {p a : Addr} {xs : List V} (b : Box H p) (h : H a = some (.lst xs)) (hx : ∀ x ∈ xs, ∀ n : Int, x ≠ .int n) : a ≠ p := fun z => by
  obtain ⟨u, v, w, hp⟩ := b
  rw [z, hp] at h
  cases h
  exact hx _ List.mem_cons_self u rfl
theorem AskedAt.put {H : Hp} {x : V} {l : Addr} {xs ys : List V} (h : AskedAt H x) (hl : H l = some (.lst xs)) (hx : ∀ x ∈ xs, ∀ n : Int, x ≠ .int n) : AskedAt (upd H l (.lst ys)) x := by
  obtain ⟨a, p, w, r, wv, rv, h1, h2, h3, h4, h5, h6, h7⟩ := h
  have t := tk_put (ys := ys) hl
  exact ⟨a, p, w, r, wv, rv, h1, t _ _ h2, h3.at_upd (h3.neL hl hx), h4.tk t (wood_hard w), h5, h6.tk t (rd_hard r), h7⟩
theorem AskedAt.noInt {H : Hp} {x : V} (h : AskedAt H x) (n : Int) : x ≠ .int n := by
  obtain ⟨a, p, w, r, wv, rv, h1, _⟩ := h
  rw [h1]
  intro z
  cases z
end Bk

set_option Elab.async false
set_option linter.all false
set_option maxRecDepth 100000
set_option maxHeartbeats 4000000
/-! Bk34: trees read by readers. -/
namespace Bk
open PySem PySem.Spec PyProof.Rows L2
def spFracB : Sp := fun vs H Q _ => ∃ u l : Int, vs = [.int u, .int l] ∧ 0 < l ∧ Bits 8800 l ∧ ∀ p, H p = none → Q (.ref p) (upd H p (.tup [.int (lowF u l).1, .int (lowF u l).2]))
def spSumAt : Sp := fun vs H Q _ => ∃ (ta pa : Addr) (s : Sm) (parts : List (List Fx)) (pvs : List V) (A N : Nat), vs = [.ref ta, .ref pa] ∧ Rep H (smD s) (.ref ta) ∧ H pa = some (.lst pvs) ∧ Reps H (parts.map fxsD) pvs ∧ parts.length ≤ 100 ∧ FitP A N parts ∧ FitS A N parts s ∧
  ∀ q H', Ex H H' → H' q = some (.tup [.int (sumF parts s).1, .int (sumF parts s).2]) → Q (.ref q) H'
/-! ### a tree's rows, one after the other -/
def ruleOf (w : Wd) (r : Rd) (s : Str) : Rl := match ((tabFrom 0 w).zip r.2).find? (fun x => decide (x.1.2.1 = s)) with
  | some x => x.2
  | none => []
def partsF (acc : List (List Fx)) (ns : List Int) : List (List Fx) := ns.map fun n => acc.getD n.toNat []
def rowF (w : Wd) (r : Rd) (acc : List (List Fx)) (row : Str × List Int) : List Fx := madeF (partsF acc row.2) (ruleOf w r row.1)
def readF (w : Wd) (r : Rd) (t : Tr) : List (List Fx) := t.foldl (fun acc row => acc ++ [rowF w r acc row]) []
theorem readF_take {w : Wd} {r : Rd} {t : Tr} {i : Nat} {row : Str × List Int} (h : t[i]? = some row) : readF w r (t.take (i + 1)) = readF w r (t.take i) ++ [rowF w r (readF w r (t.take i)) row] := by
  unfold readF
  rw [take_at h, List.foldl_append]
  rfl
theorem readF_len {w : Wd} {r : Rd} {t : Tr} : ∀ i, i ≤ t.length → (readF w r (t.take i)).length = i
  | 0, _ => by rw [List.take_zero]; rfl
  | i + 1, h => by
    rw [readF_take (List.getElem?_eq_getElem h), List.length_append, readF_len i (by omega)]
    rfl
structure RowFit (w : Wd) (r : Rd) (acc : List (List Fx)) (row : Str × List Int) : Prop where
  made : ∃ (j : Nat) (e : Nat × Mk), (tabFrom 0 w)[j]? = some e ∧ e.2.1 = row.1 ∧ r.2[j]? = some (ruleOf w r row.1)
  idx : ∀ n ∈ row.2, 0 ≤ n ∧ n < (acc.length : Nat)
  two : row.2.length ≤ 2
  rule : (ruleOf w r row.1).length ≤ 10
  fits : ∃ A N, FitP A N (partsF acc row.2) ∧ ∀ s ∈ ruleOf w r row.1, FitS A N (partsF acc row.2) s
def TreeFit (w : Wd) (r : Rd) (t : Tr) : Prop := ∀ (i : Nat) (row : Str × List Int), t[i]? = some row → RowFit w r (readF w r (t.take i)) row
def spAllBoxes : Sp := fun vs H Q _ => ∃ (w : Wd) (r : Rd) (t : Tr) (wv rv tv : V), vs = [wv, rv, tv] ∧ Rep H (woodD w) wv ∧ WoodOk w ∧ Rep H (rdD r) rv ∧ r.2.length = (tabFrom 0 w).length ∧ Rep H (treeD t) tv ∧ t.length ≤ 200 ∧ TreeFit w r t ∧
  ∀ l vs H', H l = none → Ex H H' → H' l = some (.lst vs) → Reps H' ((readF w r t).map fxsD) vs → Q (.ref l) H'
theorem mergeK_off : ∀ (L : List (Str × V)) (kvs : List (L2.Key × V)) (s : Str), s ∉ L.map Prod.fst → valV (mergeK kvs (L.map fun p => ((.inr p.1 : L2.Key), p.2))) (.inr s) = valV kvs (.inr s)
  | [], _, _, _ => rfl
  | p :: L, kvs, s, h => by
    rw [List.map_cons, List.mem_cons, not_or] at h
    show valV (mergeK (putK kvs (.inr p.1) p.2) (L.map fun p => ((.inr p.1 : L2.Key), p.2))) (.inr s) = _
    rw [mergeK_off L _ s h.2, valV_put, if_neg fun e => h.1 (Sum.inr.inj e)]
theorem mergeK_at : ∀ (L : List (Str × V)) (kvs : List (L2.Key × V)) (p : Str × V), (L.map Prod.fst).Nodup → p ∈ L → valV (mergeK kvs (L.map fun p => ((.inr p.1 : L2.Key), p.2))) (.inr p.1) = some p.2
  | [], _, _, _, h => nomatch h
  | q :: L, kvs, p, hn, h => by
    show valV (mergeK (putK kvs (.inr q.1) q.2) (L.map fun p => ((.inr p.1 : L2.Key), p.2))) (.inr p.1) = _
    rw [List.map_cons] at hn
    rcases List.mem_cons.1 h with rfl | h
    · rw [mergeK_off L _ p.1 (List.nodup_cons.1 hn).1, valV_put, if_pos rfl]
    · exact mergeK_at L _ p (List.nodup_cons.1 hn).2 h
/-! ### how great the rows' trees are -/
structure SzsOk (size : Int) (t : Tr) (szs : List Int) : Prop where
  le : ∀ s ∈ szs, 1 ≤ s ∧ s ≤ size
  row : ∀ (j : Nat) (r : Str × List Int), t[j]? = some r → szs[j]? = some (1 + (r.2.map fun n => szs.getD n.toNat 0).sum) ∧ ∀ n ∈ r.2, 0 ≤ n ∧ n < (j : Int)
theorem SzsOk.nil {size : Int} : SzsOk size [] [] := ⟨fun s h => (nomatch h), fun j r h => by simp at h⟩
theorem sum_nonneg : ∀ {l : List Int}, (∀ x ∈ l, 0 ≤ x) → 0 ≤ l.sum
  | [], _ => Int.le_refl _
  | x :: l, h => by
    have a := h x List.mem_cons_self
    have b := sum_nonneg (l := l) fun y hy => h y (List.mem_cons_of_mem _ hy)
    rw [List.sum_cons]
    omega
theorem SzsOk.app {size m : Int} {t : Tr} {szs : List Int} {r : Str × List Int} (h : SzsOk size t szs) (hl : szs.length = t.length) (hm : m ≤ size) (em : m = 1 + (r.2.map fun n => szs.getD n.toNat 0).sum) (hr : ∀ n ∈ r.2, 0 ≤ n ∧ n < (t.length : Int)) : SzsOk size (t ++ [r]) (szs ++ [m]) := by
  have old : ∀ (ns : List Int) (j : Nat), j ≤ t.length → (∀ n ∈ ns, 0 ≤ n ∧ n < (j : Int)) → (ns.map fun n => (szs ++ [m]).getD n.toNat 0) = ns.map fun n => szs.getD n.toNat 0 := fun ns j hj hn => by
    refine List.map_congr_left fun n h' => ?_
    have := hn n h'
    rw [List.getD_eq_getElem?_getD, List.getD_eq_getElem?_getD, List.getElem?_append_left (by omega)]
  have pos : 0 ≤ (r.2.map fun n => szs.getD n.toNat 0).sum := sum_nonneg fun x hx => by
    obtain ⟨n, hn, rfl⟩ := List.mem_map.1 hx
    have := hr n hn
    rw [List.getD_eq_getElem?_getD, List.getElem?_eq_getElem (by omega)]
    have := (h.le _ (List.getElem_mem (show n.toNat < szs.length by omega))).1
    exact Int.le_trans (by decide) this
  refine ⟨fun s hs => ?_, fun j q hq => ?_⟩
  · rcases List.mem_append.1 hs with hs | hs
    · exact h.le s hs
    · rw [List.mem_singleton.1 hs]
      omega
  · rcases Nat.lt_or_ge j t.length with c | c
    · rw [List.getElem?_append_left c] at hq
      obtain ⟨a, b⟩ := h.row j q hq
      refine ⟨?_, b⟩
      rw [old q.2 j (Nat.le_of_lt c) b, List.getElem?_append_left (by omega)]
      exact a
    · rw [List.getElem?_append_right c] at hq
      have ej : j = t.length := by
        have := (List.getElem?_eq_some_iff.1 hq).1
        rw [List.length_singleton] at this
        omega
      subst ej
      rw [Nat.sub_self] at hq
      cases hq
      refine ⟨?_, hr⟩
      rw [old r.2 t.length (Nat.le_refl _) hr, List.getElem?_append_right (by omega), hl, Nat.sub_self, em]
      rfl
def spTreeS : Sp := fun vs H Q _ => ∃ (p : Addr) (w : Wd) (v : V) (most : Nat) (size : Int), vs = [.ref p, v, .int (most : Nat), .int size] ∧ Box H p ∧ Rep H (woodD w) v ∧ WoodOk w ∧ 1 ≤ most ∧ most ≤ 200 ∧
  ∀ (t : Tr) (szs : List Int) (u : V) (H' : Hp), t.length ≤ most → goTr w [] t = true → (∀ r ∈ t, TextOk r.1 ∧ r.2.length ≤ 2) → szs.length = t.length → SzsOk size t szs → Rep H' (treeD t) u → But p H H' → Box H' p → Q u H'
theorem paired_str {H : Hp} : ∀ (L : List (Str × V)) (acc : List V), acc.length = L.length → (∀ (j : Nat) (v : V), acc[j]? = some v → ∃ p x, v = .ref p ∧ L[j]? = some x ∧ H p = some (.tup [.str x.1, x.2])) →
    ∃ ps : List Addr, acc = ps.map V.ref ∧ ∀ K : PySem.W.Frag, Paired (fun p (kv : L2.Key × V) => SqT K H p [kV kv.1, kv.2]) ps (L.map fun p => ((.inr p.1 : L2.Key), p.2))
  | [], acc, hl, _ => ⟨[], List.eq_nil_of_length_eq_zero hl, fun _ => .nil⟩
  | x :: L, [], hl, _ => by cases hl
  | x :: L, v :: acc, hl, h => by
    obtain ⟨p, y, rfl, ey, hp⟩ := h 0 v rfl
    cases ey
    obtain ⟨ps, rfl, hps⟩ := paired_str (H := H) L acc (Nat.succ.inj hl) fun j u hu => h (j + 1) u hu
    exact ⟨p :: ps, rfl, fun K => .cons (sqT hp) (hps K)⟩
/-- the rules by their makers' names -/
def rulesL (w : Wd) (xs : List V) : List (Str × V) := ((tabFrom 0 w).zip xs).map fun z => (z.1.2.1, z.2)
theorem rulesL_fst {w : Wd} {xs : List V} (h : xs.length = (tabFrom 0 w).length) : (rulesL w xs).map Prod.fst = (tabFrom 0 w).map fun e => e.2.1 := by
  unfold rulesL
  rw [List.map_map]
  have : ∀ (as : List (Nat × Mk)) (bs : List V), bs.length = as.length → (as.zip bs).map (Prod.fst ∘ fun z => (z.1.2.1, z.2)) = as.map fun e => e.2.1 := by
    intro as
    induction as with
    | nil => intro bs _; rfl
    | cons a as ih =>
      intro bs hb
      cases bs with
      | nil => cases hb
      | cons b bs =>
        have := ih bs (Nat.succ.inj hb)
        rw [List.zip_cons_cons, List.map_cons, List.map_cons, this]
        rfl
  exact this _ _ h
theorem rulesL_at {w : Wd} {xs : List V} {j : Nat} {e : Nat × Mk} {x : V} (h1 : (tabFrom 0 w)[j]? = some e) (h2 : xs[j]? = some x) : (rulesL w xs)[j]? = some (e.2.1, x) := by
  unfold rulesL
  rw [List.getElem?_map, zip_at h1 h2]
  rfl
def spBoxesAt : Sp := fun vs H Q _ => ∃ (w : Wd) (r : Rd) (t : Tr) (wv rv tv : V), vs = [wv, rv, tv] ∧ Rep H (woodD w) wv ∧ WoodOk w ∧ Rep H (rdD r) rv ∧ r.2.length = (tabFrom 0 w).length ∧ Rep H (treeD t) tv ∧ t.length ≤ 200 ∧ TreeFit w r t ∧ t ≠ [] ∧
  ∀ v H', Ex H H' → Rep H' (fxsD ((readF w r t).getD (t.length - 1) [])) v → Q v H'
end Bk

set_option Elab.async false
set_option linter.all false
set_option maxRecDepth 100000
set_option maxHeartbeats 4000000
/-! Bk35: how great the fractions in a tree's boxes become. -/
namespace Bk
open PySem PySem.Spec PyProof.Rows L2
theorem goTr_at {w : Wd} : ∀ {t : Tr} {ks : List Int} {i : Nat} {row : Str × List Int}, goTr w ks t = true → t[i]? = some row → stands w (ks ++ kindsT w (t.take i)) row = true
  | [], _, _, _, _, h => by simp at h
  | r :: t, ks, 0, row, h, e => by
    cases e
    have h2 := Bool.and_eq_true_iff.1 (show (stands w ks r && goTr w (ks ++ [kindAt w r.1]) t) = true from h)
    show stands w (ks ++ []) r = true
    rw [List.append_nil]
    exact h2.1
  | r :: t, ks, i + 1, row, h, e => by
    have h2 := Bool.and_eq_true_iff.1 (show (stands w ks r && goTr w (ks ++ [kindAt w r.1]) t) = true from h)
    have z := goTr_at (t := t) (i := i) h2.2 e
    rw [List.append_assoc] at z
    exact z
theorem ruleOf_at {w : Wd} {r : Rd} (ok : WoodOk w) {j : Nat} {e : Nat × Mk} {x : Rl} (h1 : (tabFrom 0 w)[j]? = some e) (h2 : r.2[j]? = some x) : ruleOf w r e.2.1 = x := by
  have hz := zip_at h1 h2
  have nd := ok.nd
  unfold ruleOf
  generalize tabFrom 0 w = L at h1 hz nd
  have key : ∀ (L : List (Nat × Mk)) (R : List Rl) (j : Nat), (L.map fun e => e.2.1).Nodup → (L.zip R)[j]? = some (e, x) → (L.zip R).find? (fun z => decide (z.1.2.1 = e.2.1)) = some (e, x) := by
    intro L
    induction L with
    | nil => intro R j _ h; simp at h
    | cons a L ih =>
      intro R j nd h
      cases R with
      | nil => simp at h
      | cons b R =>
        rw [List.map_cons, List.nodup_cons] at nd
        rw [List.zip_cons_cons] at h ⊢
        cases j with
        | zero =>
          cases h
          rw [List.find?_cons]
          simp
        | succ j =>
          have h' : (L.zip R)[j]? = some (e, x) := h
          have hm := (List.of_mem_zip (List.mem_of_getElem? h')).1
          have ne : a.2.1 ≠ e.2.1 := fun z => nd.1 (List.mem_map.2 ⟨e, hm, z.symm⟩)
          rw [List.find?_cons]
          simp only [ne, decide_false]
          exact ih R j nd.2 h'
  rw [key L r.2 j nd hz]
structure PartsAt (w : Wd) (r : Rd) (t : Tr) (i : Nat) (row : Str × List Int) (j : Nat) (e : Nat × Mk) : Prop where
  tab : (tabFrom 0 w)[j]? = some e
  nm : e.2.1 = row.1
  len : row.2.length = (dueOf w e).length
  two : row.2.length ≤ 2
  idx : ∀ (u : Nat) (n : Int), row.2[u]? = some n → 0 ≤ n ∧ n < (i : Int) ∧ ∃ q, t[n.toNat]? = some q ∧ (dueOf w e)[u]? = some (kindAt w q.1)
  kind : kindAt w row.1 = (e.1 : Nat)
theorem parts_at {w : Wd} (ok : WoodOk w) {r : Rd} {t : Tr} {i : Nat} {row : Str × List Int} (hg : goTr w [] t = true) (h : t[i]? = some row) : ∃ j e, PartsAt w r t i row j e := by
  have st := goTr_at hg h
  rw [List.nil_append] at st
  unfold stands at st
  have li := (List.getElem?_eq_some_iff.1 h).1
  have lk : (kindsT w (t.take i)).length = i := by unfold kindsT; rw [List.length_map, List.length_take]; omega
  cases em : mkOf w row.1 with
  | none => rw [em] at st; cases st
  | some e =>
    rw [em] at st
    obtain ⟨he, en⟩ := mkOf_some em
    obtain ⟨j, hj⟩ := List.mem_iff_getElem?.1 he
    obtain ⟨ek, dl, d2, din⟩ := dueOf_in ok he
    replace st : standsAt (kindsT w (t.take i)) row.2 (dueOf w e) = true := st
    unfold standsAt at st
    simp only [Bool.and_eq_true, decide_eq_true_eq, List.all_eq_true] at st
    obtain ⟨s1, s2, s3⟩ := st
    refine ⟨j, e, hj, en, s1, by omega, fun u n hu => ?_, by unfold kindAt; rw [em]⟩
    have a := s2 n (List.mem_of_getElem? hu)
    have lu := (List.getElem?_eq_some_iff.1 hu).1
    obtain ⟨dd, hd⟩ : ∃ dd, (dueOf w e)[u]? = some dd := ⟨_, List.getElem?_eq_getElem (by omega)⟩
    have b := s3 (n, dd) (List.mem_of_getElem? (zip_at hu hd))
    refine ⟨a.1, by omega, ?_⟩
    replace b : (kindsT w (t.take i))[n.toNat]? = some dd := b
    unfold kindsT at b
    rw [List.getElem?_map] at b
    cases eq : (t.take i)[n.toNat]? with
    | none => rw [eq] at b; cases b
    | some q =>
      rw [eq] at b
      cases b
      refine ⟨q, ?_, hd⟩
      rw [List.getElem?_take] at eq
      split at eq
      · exact eq
      · cases eq
/-- what stands in the boxes of the rows ahead -/
def BoxesAt (w : Wd) (r : Rd) (t : Tr) (A N : Nat → Nat) (i : Nat) : Prop := ∀ (j : Nat) (row : Str × List Int), j < i → t[j]? = some row → ∃ b, (readF w r (t.take i))[j]? = some b ∧ (b.length : Int) = cntAt r.1 (kindAt w row.1) ∧ ∀ f ∈ b, Szf (A j) (N j) f
theorem boxes_step {w : Wd} {r : Rd} {t : Tr} (ok : WoodOk w) (rok : RdOk w r) (hg : goTr w [] t = true) {A N : Nat → Nat}
    (hs : ∀ (i : Nat) (row : Str × List Int) (j : Nat) (e : Nat × Mk) (x : Rl), t[i]? = some row → PartsAt w r t i row j e → r.2[j]? = some x → BoxesAt w r t A N i → ∃ A0 N0, FitP A0 N0 (partsF (readF w r (t.take i)) row.2) ∧ (∀ s ∈ x, FitS A0 N0 (partsF (readF w r (t.take i)) row.2) s) ∧ 6 * A0 ≤ A i ∧ N0 ∣ N i) :
    ∀ i, i ≤ t.length → BoxesAt w r t A N i ∧ ∀ (j : Nat) (row : Str × List Int), j < i → t[j]? = some row → RowFit w r (readF w r (t.take j)) row
  | 0, _ => ⟨fun j row hj => absurd hj (Nat.not_lt_zero _), fun j row hj => absurd hj (Nat.not_lt_zero _)⟩
  | i + 1, hi => by
    obtain ⟨ih, fit⟩ := boxes_step ok rok hg hs i (by omega)
    have er : t[i]? = some t[i] := List.getElem?_eq_getElem hi
    obtain ⟨j, e, pa⟩ := parts_at (r := r) ok hg er
    have lj := (List.getElem?_eq_some_iff.1 pa.tab).1
    have ex : r.2[j]? = some (r.2[j]'(by rw [rok.rules]; exact lj)) := List.getElem?_eq_getElem _
    generalize r.2[j]'(by rw [rok.rules]; exact lj) = x at ex
    obtain ⟨A0, N0, fp, fs, hA, hN⟩ := hs i t[i] j e x er pa ex ih
    have eru : ruleOf w r t[i].1 = x := by rw [← pa.nm]; exact ruleOf_at ok pa.tab ex
    obtain ⟨c1, c2⟩ := rok.rule j e x pa.tab ex
    have lac := readF_len (w := w) (r := r) (t := t) i (by omega)
    have rf : RowFit w r (readF w r (t.take i)) t[i] := ⟨⟨j, e, pa.tab, pa.nm, by rw [eru]; exact ex⟩, fun n hn => by
      obtain ⟨u, hu⟩ := List.mem_iff_getElem?.1 hn
      obtain ⟨a, b, _⟩ := pa.idx u n hu
      exact ⟨a, by omega⟩, pa.two, by
        rw [eru]
        have := (rok.rlb ok x (List.mem_of_getElem? ex)).many
        exact this, ⟨A0, N0, fp, by rw [eru]; exact fs⟩⟩
    refine ⟨fun q row hq hrow => ?_, fun q row hq hrow => ?_⟩
    · rw [readF_take er]
      rcases Nat.lt_succ_iff_lt_or_eq.1 hq with hq | rfl
      · obtain ⟨b, h1, h2, h3⟩ := ih q row hq hrow
        exact ⟨b, by rw [List.getElem?_append_left (by omega)]; exact h1, h2, h3⟩
      · rw [er] at hrow
        cases hrow
        refine ⟨rowF w r (readF w r (t.take q)) t[q], by rw [List.getElem?_append_right (by omega), lac, Nat.sub_self]; rfl, ?_, fun f hf => ?_⟩
        · unfold rowF madeF
          rw [eru, List.length_map, c1, pa.kind]
        · unfold rowF madeF at hf
          rw [eru] at hf
          obtain ⟨s, hs', rfl⟩ := List.mem_map.1 hf
          have fS := fs s hs'
          have z := sum_sz fS s.length (Nat.le_refl _)
          rw [List.take_length] at z
          exact z.mono (Nat.le_trans (Nat.mul_le_mul_right _ fS.many) hA) hN
    · rcases Nat.lt_succ_iff_lt_or_eq.1 hq with hq | rfl
      · exact fit q row hq hrow
      · rw [er] at hrow
        cases hrow
        exact rf
theorem tree_fit {w : Wd} {r : Rd} {t : Tr} (ok : WoodOk w) (rok : RdOk w r) (hg : goTr w [] t = true) {A N : Nat → Nat}
    (hs : ∀ (i : Nat) (row : Str × List Int) (j : Nat) (e : Nat × Mk) (x : Rl), t[i]? = some row → PartsAt w r t i row j e → r.2[j]? = some x → BoxesAt w r t A N i → ∃ A0 N0, FitP A0 N0 (partsF (readF w r (t.take i)) row.2) ∧ (∀ s ∈ x, FitS A0 N0 (partsF (readF w r (t.take i)) row.2) s) ∧ 6 * A0 ≤ A i ∧ N0 ∣ N i) : TreeFit w r t := fun i row h =>
  (boxes_step ok rok hg hs t.length (Nat.le_refl _)).2 i row (List.getElem?_eq_some_iff.1 h).1 h
/-- the boxes that a term names are there -/
theorem box_in {w : Wd} {r : Rd} {t : Tr} {A N : Nat → Nat} {i : Nat} {row : Str × List Int} {j : Nat} {e : Nat × Mk} (pa : PartsAt w r t i row j e) (hb : BoxesAt w r t A N i) {tm : Tm} (ok : TmOk r.1 (dueOf w e) tm) :
    tm.2.length = (partsF (readF w r (t.take i)) row.2).length ∧ ∀ (u : Nat) (p : List Fx) (k : Int), (partsF (readF w r (t.take i)) row.2)[u]? = some p → tm.2[u]? = some (some k) → 0 ≤ k ∧ k < (p.length : Nat) := by
  have lp : (partsF (readF w r (t.take i)) row.2).length = row.2.length := by unfold partsF; rw [List.length_map]
  refine ⟨by rw [lp, ok.len, pa.len], fun u p k h1 h2 => ?_⟩
  unfold partsF at h1
  rw [List.getElem?_map] at h1
  cases en : row.2[u]? with
  | none => rw [en] at h1; cases h1
  | some n =>
    rw [en] at h1
    cases h1
    obtain ⟨n0, n1, q, hq, hd⟩ := pa.idx u n en
    obtain ⟨b, hb1, hb2, _⟩ := hb n.toNat q (by omega) hq
    have z := List.all_eq_true.1 ok.box _ (List.mem_of_getElem? (zip_at hd h2))
    have z2 : 0 ≤ k ∧ k < cntAt r.1 (kindAt w q.1) := of_decide_eq_true z
    show 0 ≤ k ∧ k < (((readF w r (t.take i)).getD n.toNat []).length : Nat)
    rw [List.getD_eq_getElem?_getD, hb1]
    show 0 ≤ k ∧ k < (b.length : Nat)
    omega
theorem part_in {w : Wd} {r : Rd} {t : Tr} {A N : Nat → Nat} {i : Nat} {row : Str × List Int} {j : Nat} {e : Nat × Mk} (pa : PartsAt w r t i row j e) (hb : BoxesAt w r t A N i) {u : Nat} {p : List Fx} (h : (partsF (readF w r (t.take i)) row.2)[u]? = some p) :
    ∃ n, row.2[u]? = some n ∧ 0 ≤ n ∧ n < (i : Int) ∧ ∀ f ∈ p, Szf (A n.toNat) (N n.toNat) f := by
  unfold partsF at h
  rw [List.getElem?_map] at h
  cases en : row.2[u]? with
  | none => rw [en] at h; cases h
  | some n =>
    rw [en] at h
    cases h
    obtain ⟨n0, n1, q, hq, hd⟩ := pa.idx u n en
    obtain ⟨b, hb1, hb2, hb3⟩ := hb n.toNat q (by omega) hq
    refine ⟨n, rfl, n0, n1, fun f hf => hb3 f ?_⟩
    replace hf : f ∈ (readF w r (t.take i)).getD n.toNat [] := hf
    rw [List.getD_eq_getElem?_getD, hb1] at hf
    exact hf
theorem prod_szE : ∀ (l : List (List Fx × Option Int)) (es : List Nat), es.length = l.length → (∀ (k : Nat) (x : List Fx × Option Int) (e : Nat), l[k]? = some x → es[k]? = some e → ∀ i : Int, x.2 = some i → Szf (6000 ^ e) (lcmA ^ e) (x.1.getD i.toNat (0, 1))) → ∀ (a m : Nat) (f : Fx), Szf a m f → Szf (a * 6000 ^ es.sum) (m * lcmA ^ es.sum) (prodF f l)
  | [], [], _, _, a, m, f, h => by
    show Szf (a * 1) (m * 1) f
    rw [Nat.mul_one, Nat.mul_one]
    exact h
  | [], e :: es, hl, _, _, _, _, _ => by cases hl
  | x :: l, [], hl, _, _, _, _, _ => by cases hl
  | x :: l, e :: es, hl, hx, a, m, f, h => by
    have z : Szf (a * 6000 ^ e) (m * lcmA ^ e) (stepF f x) := by
      unfold stepF
      split
      · exact h.mono (Nat.le_mul_of_pos_right _ (Nat.pow_pos (by decide))) ⟨lcmA ^ e, rfl⟩
      · rename_i i hi
        exact h.mul (hx 0 x e rfl rfl i hi)
    have r := prod_szE l es (Nat.succ.inj hl) (fun k y e' h1 h2 => hx (k + 1) y e' h1 h2) _ _ _ z
    rw [List.sum_cons, Nat.pow_add, Nat.pow_add, ← Nat.mul_assoc, ← Nat.mul_assoc]
    exact r
theorem sum_take_le (es : List Nat) (j : Nat) : (es.take j).sum ≤ es.sum := by
  have : es.sum = (es.take j).sum + (es.drop j).sum := by rw [← List.sum_append, List.take_append_drop]
  omega
theorem mem_le_sum {x : Nat} : ∀ {es : List Nat}, x ∈ es → x ≤ es.sum
  | e :: es, h => by
    rw [List.sum_cons]
    rcases List.mem_cons.1 h with rfl | h
    · omega
    · have := mem_le_sum h
      omega
theorem sum_toNat {f : Int → Int} : ∀ {l : List Int}, (∀ n ∈ l, 0 ≤ f n) → (((l.map fun n => (f n).toNat).sum : Nat) : Int) = (l.map f).sum
  | [], _ => rfl
  | n :: l, h => by
    have a := h n List.mem_cons_self
    have b := sum_toNat (l := l) fun m hm => h m (List.mem_cons_of_mem _ hm)
    rw [List.map_cons, List.map_cons, List.sum_cons, List.sum_cons, Int.natCast_add, b]
    omega
theorem fit_general {w : Wd} {r : Rd} {t : Tr} {szs : List Int} (ok : WoodOk w) (rok : RdOk w r) (hg : goTr w [] t = true) (hl : szs.length = t.length) (hz : SzsOk 30 t szs) : TreeFit w r t := by
  refine tree_fit ok rok hg (A := fun i => 6000 ^ (szs.getD i 0).toNat) (N := fun i => lcmA ^ (szs.getD i 0).toNat) fun i row j e x h pa hx hb => ?_
  obtain ⟨hr1, hr2⟩ := hz.row i row h
  have hle := hz.le _ (List.mem_of_getElem? hr1)
  have pos : ∀ n ∈ row.2, 1 ≤ szs.getD n.toNat 0 := fun n hn => by
    have := hr2 n hn
    have li := (List.getElem?_eq_some_iff.1 h).1
    rw [List.getD_eq_getElem?_getD, List.getElem?_eq_getElem (show n.toNat < szs.length by omega)]
    exact (hz.le _ (List.getElem_mem _)).1
  have es := sum_toNat (f := fun n => szs.getD n.toNat 0) (l := row.2) fun n hn => Int.le_trans (by decide) (pos n hn)
  have ei : szs.getD i 0 = 1 + (row.2.map fun n => szs.getD n.toNat 0).sum := by rw [List.getD_eq_getElem?_getD, hr1]; rfl
  obtain ⟨E, hE⟩ : ∃ E : List Nat, E = row.2.map fun n => (szs.getD n.toNat 0).toNat := ⟨_, rfl⟩
  rw [← hE] at es
  have eS : (szs.getD i 0).toNat = 1 + E.sum := by omega
  have hS : 1 + E.sum ≤ 30 := by omega
  show ∃ A0 N0, _ ∧ _ ∧ 6 * A0 ≤ 6000 ^ (szs.getD i 0).toNat ∧ N0 ∣ lcmA ^ (szs.getD i 0).toNat
  rw [eS]
  have eA : 6 * (1000 * 6000 ^ E.sum) = 6000 ^ (1 + E.sum) := by rw [Nat.pow_add, ← Nat.mul_assoc]
  have eN : lcmA * lcmA ^ E.sum = lcmA ^ (1 + E.sum) := by rw [Nat.pow_add, Nat.pow_one]
  obtain ⟨c1, c2⟩ := rok.rule j e x pa.tab hx
  refine ⟨1000 * 6000 ^ E.sum, lcmA ^ (1 + E.sum), ⟨Nat.pow_pos (by decide), ?_, ?_, fun p hp f hf => ?_⟩, fun s hs => ⟨(c2 s hs).1, fun tm htm => ?_⟩, by rw [eA]; exact Nat.le_refl _, Nat.dvd_refl _⟩
  · exact Nat.lt_of_le_of_lt (Nat.pow_le_pow_right (by decide) hS) (by decide +kernel)
  · rw [eA]
    exact Nat.lt_of_le_of_lt (Nat.pow_le_pow_right (by decide) hS) (by decide +kernel)
  · obtain ⟨u, hu⟩ := List.mem_iff_getElem?.1 hp
    obtain ⟨n, hn, n0, n1, hf2⟩ := part_in pa hb hu
    have hm : (szs.getD n.toNat 0).toNat ∈ E := by rw [hE]; exact List.mem_map.2 ⟨n, List.mem_of_getElem? hn, rfl⟩
    have le := mem_le_sum hm
    refine (hf2 f hf).mono ?_ (Nat.pow_dvd_pow _ (by omega))
    exact Nat.le_trans (Nat.pow_le_pow_right (by decide) le) (Nat.le_mul_of_pos_left _ (by decide))
  · have tok := (c2 s hs).2 tm htm
    obtain ⟨b1, b2⟩ := box_in pa hb tok
    refine ⟨b1, b2, fun q => ?_⟩
    have lE : E.length = (partsF (readF w r (t.take i)) row.2).length := by rw [hE]; unfold partsF; rw [List.length_map, List.length_map]
    have z := prod_szE ((((partsF (readF w r (t.take i)) row.2).zip tm.2)).take q) (E.take q) (by rw [List.length_take, List.length_take, List.length_zip]; omega) (fun k y e' h1 h2 ii hii => by
      rw [List.getElem?_take] at h1 h2
      split at h1
      · rename_i kq
        rw [if_pos kq] at h2
        obtain ⟨y1, y2⟩ := y
        obtain ⟨a1, a2⟩ := List.getElem?_zip_eq_some.1 h1
        have hy2 : y2 = some ii := hii
        subst hy2
        obtain ⟨n, hn, n0, n1, hf2⟩ := part_in pa hb a1
        obtain ⟨i0, i1⟩ := b2 k y1 ii a1 a2
        have e2 : e' = (szs.getD n.toNat 0).toNat := by
          rw [hE, List.getElem?_map, hn] at h2
          exact (Option.some.inj h2).symm
        rw [e2]
        refine hf2 _ ?_
        rw [List.getD_eq_getElem?_getD, List.getElem?_eq_getElem (show ii.toNat < y1.length by omega)]
        exact List.getElem_mem _
      · cases h1) 1000 lcmA tm.1 tok.num.sz
    have sl := sum_take_le E q
    refine z.mono (Nat.mul_le_mul_left _ (Nat.pow_le_pow_right (by decide) sl)) ?_
    rw [← eN]
    exact Nat.mul_dvd_mul (Nat.dvd_refl _) (Nat.pow_dvd_pow _ sl)
/-! ### small whole numbers, one box in a term -/
def OneBox (bs : List (Option Int)) : Prop := bs = [] ∨ (∃ b, bs = [b]) ∨ ∃ b c, bs = [b, c] ∧ (b = none ∨ c = none)
def ThinOk (r : Rd) : Prop := ∀ x ∈ r.2, ∀ s ∈ x, ∀ tm ∈ s, tm.1.2 = 1 ∧ tm.1.1.natAbs ≤ 3 ∧ OneBox tm.2
theorem step_one {B : Nat} {f : Fx} {x : List Fx × Option Int} (hB : 1 ≤ B) (h : Szf 3 1 f) (hx : ∀ i : Int, x.2 = some i → Szf B 1 (x.1.getD i.toNat (0, 1))) : Szf (3 * B) 1 (stepF f x) := by
  unfold stepF
  split
  · exact h.mono (Nat.le_mul_of_pos_right _ hB) (Nat.dvd_refl _)
  · rename_i i hi
    exact h.mul (hx i hi)
theorem prod_one {B : Nat} {f : Fx} (hB : 1 ≤ B) (h : Szf 3 1 f) {ps : List (List Fx)} {bs : List (Option Int)} (hl : bs.length = ps.length) (ob : OneBox bs) (hx : ∀ (u : Nat) (p : List Fx) (i : Int), ps[u]? = some p → bs[u]? = some (some i) → Szf B 1 (p.getD i.toNat (0, 1))) (q : Nat) : Szf (3 * B) 1 (prodF f ((ps.zip bs).take q)) := by
  have m3 : Szf (3 * B) 1 f := h.mono (Nat.le_mul_of_pos_right _ hB) (Nat.dvd_refl _)
  rcases ob with rfl | ⟨b, rfl⟩ | ⟨b, c, rfl, hbc⟩
  · rw [List.zip_nil_right, List.take_nil]
    exact m3
  · match ps, hl with
    | [p], _ =>
      match q with
      | 0 => exact m3
      | q + 1 =>
        show Szf (3 * B) 1 (prodF f ((p, b) :: ([] : List (List Fx × Option Int)).take q))
        rw [List.take_nil]
        exact step_one hB h fun i hi => hx 0 p i rfl (by rw [← hi]; rfl)
  · match ps, hl with
    | [p, p2], _ =>
      have k1 := step_one (x := (p, b)) hB h fun i hi => hx 0 p i rfl (by rw [← hi]; rfl)
      match q with
      | 0 => exact m3
      | 1 => exact k1
      | q + 2 =>
        show Szf (3 * B) 1 (prodF f ((p, b) :: (p2, c) :: ([] : List (List Fx × Option Int)).take q))
        rw [List.take_nil]
        rcases hbc with rfl | rfl
        · exact step_one (x := (p2, c)) hB h fun i hi => hx 1 p2 i rfl (by rw [← hi]; rfl)
        · exact k1
theorem fit_thin {w : Wd} {r : Rd} {t : Tr} (ok : WoodOk w) (rok : RdOk w r) (hg : goTr w [] t = true) (hl : t.length ≤ 60) (th : ThinOk r) : TreeFit w r t := by
  refine tree_fit ok rok hg (A := fun i => 18 ^ (i + 1)) (N := fun _ => 1) fun i row j e x h pa hx hb => ?_
  have li := (List.getElem?_eq_some_iff.1 h).1
  have eA : 6 * (3 * 18 ^ i) = 18 ^ (i + 1) := by rw [← Nat.mul_assoc, Nat.pow_succ, Nat.mul_comm]
  obtain ⟨c1, c2⟩ := rok.rule j e x pa.tab hx
  have p1 : 1 ≤ 18 ^ i := Nat.pow_pos (by decide)
  refine ⟨3 * 18 ^ i, 1, ⟨Nat.one_pos, by decide +kernel, ?_, fun p hp f hf => ?_⟩, fun s hs => ⟨(c2 s hs).1, fun tm htm => ?_⟩, by rw [eA]; exact Nat.le_refl _, Nat.dvd_refl _⟩
  · rw [eA]
    exact Nat.lt_of_le_of_lt (Nat.pow_le_pow_right (by decide) (by omega : i + 1 ≤ 60)) (by decide +kernel)
  · obtain ⟨u, hu⟩ := List.mem_iff_getElem?.1 hp
    obtain ⟨n, hn, n0, n1, hf2⟩ := part_in pa hb hu
    refine (hf2 f hf).mono ?_ (Nat.dvd_refl _)
    exact Nat.le_trans (Nat.pow_le_pow_right (by decide) (by omega : n.toNat + 1 ≤ i)) (Nat.le_mul_of_pos_left _ (by decide))
  · have tok := (c2 s hs).2 tm htm
    obtain ⟨b1, b2⟩ := box_in pa hb tok
    obtain ⟨t1, t2, t3⟩ := th x (List.mem_of_getElem? hx) s hs tm htm
    refine ⟨b1, b2, fun q => ?_⟩
    have s1 : Szf 3 1 tm.1 := ⟨by rw [t1]; decide, by rw [t1]; exact Nat.dvd_refl _, by rw [t1]; exact t2⟩
    refine prod_one p1 s1 b1 t3 (fun u p k a1 a2 => ?_) q
    obtain ⟨n, hn, n0, n1, hf2⟩ := part_in pa hb a1
    obtain ⟨i0, i1⟩ := b2 u p k a1 a2
    refine Szf.mono (hf2 _ ?_) (Nat.pow_le_pow_right (by decide) (by omega : n.toNat + 1 ≤ i)) (Nat.dvd_refl _)
    rw [List.getD_eq_getElem?_getD, List.getElem?_eq_getElem (show k.toNat < p.length by omega)]
    exact List.getElem_mem _
end Bk

set_option Elab.async false
set_option linter.all false
set_option maxRecDepth 100000
set_option maxHeartbeats 4000000
/-! Bk36: thin readers; what k15 asks about. -/
namespace Bk
open PySem PySem.Spec PyProof.Rows L2
def thinB : List (Option Int) → List (Option Int)
  | [some i, _] => [some i, none]
  | bs => bs
def thinT (t : Tm) : Tm := ((t.1.1.fmod 7 - 3, 1), thinB t.2)
def thinR (r : Rd) : Rd := (r.1, r.2.map fun x => x.map fun s => s.map thinT)
theorem thinB_len (bs : List (Option Int)) : (thinB bs).length = bs.length := by
  unfold thinB
  split <;> rfl
theorem thinB_one {bs : List (Option Int)} (h : bs.length ≤ 2) : OneBox (thinB bs) := by
  match bs, h with
  | [], _ => exact .inl rfl
  | [b], _ => exact .inr (.inl ⟨b, by cases b <;> rfl⟩)
  | [some i, c], _ => exact .inr (.inr ⟨some i, none, rfl, .inr rfl⟩)
  | [none, c], _ => exact .inr (.inr ⟨none, c, rfl, .inl rfl⟩)
theorem thinB_ok {cs ps : List Int} {bs : List (Option Int)} (h : (ps.zip bs).all (boxOk cs) = true) : (ps.zip (thinB bs)).all (boxOk cs) = true := by
  unfold thinB
  split
  · rename_i i c
    match ps with
    | [] => rfl
    | [p] => exact h
    | p :: p2 :: ps =>
      rw [List.zip_cons_cons, List.all_cons, Bool.and_eq_true] at h
      show (boxOk cs (p, some i) && (true && (List.zip ps []).all (boxOk cs))) = true
      rw [h.1, List.zip_nil_right]
      rfl
  · exact h
theorem thin_low (u : Int) : FxOk (u.fmod 7 - 3, 1) ∧ (u.fmod 7 - 3).natAbs ≤ 3 := by
  have a := Int.fmod_nonneg_of_pos u (show (0 : Int) < 7 by decide)
  have b := Int.fmod_lt_of_pos u (show (0 : Int) < 7 by decide)
  have c : (u.fmod 7 - 3).natAbs ≤ 3 := by omega
  exact ⟨⟨show (0 : Int) < 1 by decide, Int.gcd_one, show (u.fmod 7 - 3).natAbs ≤ 1000 by omega, show (1 : Int) ≤ 100 by decide⟩, c⟩
theorem thin_rd {w : Wd} {r : Rd} (h : RdOk w r) : RdOk w (thinR r) := by
  refine ⟨h.counts, h.count, by show (r.2.map _).length = _; rw [List.length_map]; exact h.rules, fun j e x hj hx => ?_⟩
  replace hx : (r.2.map fun x => x.map fun s => s.map thinT)[j]? = some x := hx
  rw [List.getElem?_map] at hx
  cases er : r.2[j]? with
  | none => rw [er] at hx; cases hx
  | some x0 =>
    rw [er] at hx
    cases hx
    obtain ⟨c1, c2⟩ := h.rule j e x0 hj er
    refine ⟨by rw [List.length_map]; exact c1, fun s hs => ?_⟩
    obtain ⟨s0, hs0, rfl⟩ := List.mem_map.1 hs
    refine ⟨by rw [List.length_map]; exact (c2 s0 hs0).1, fun t ht => ?_⟩
    obtain ⟨t0, ht0, rfl⟩ := List.mem_map.1 ht
    have z := (c2 s0 hs0).2 t0 ht0
    exact ⟨(thin_low t0.1.1).1, by show (thinB t0.2).length = _; rw [thinB_len]; exact z.len, thinB_ok z.box⟩
theorem thin_ok {w : Wd} (ok : WoodOk w) {r : Rd} (h : RdOk w r) : ThinOk (thinR r) := fun x hx s hs t ht => by
  obtain ⟨x0, hx0, rfl⟩ := List.mem_map.1 hx
  obtain ⟨s0, hs0, rfl⟩ := List.mem_map.1 hs
  obtain ⟨t0, ht0, rfl⟩ := List.mem_map.1 ht
  exact ⟨rfl, (thin_low t0.1.1).2, thinB_one ((((h.n0 ok).rule x0 hx0).2 s0 hs0).2 t0 ht0).1⟩
def spThin : Sp := fun vs H Q _ => ∃ (r : Rd) (v : V), vs = [v] ∧ Rep H (rdD r) v ∧ RdN 0 r ∧ ∀ v' H', Ex H H' → Rep H' (rdD (thinR r)) v' → Q v' H'
theorem nodup_ix {L : List Str} {j m : Nat} {s : Str} (hn : L.Nodup) (h : L[j]? = some s) (h2 : L[m]? = some s) : m = j := by
  obtain ⟨a, e⟩ := List.getElem?_eq_some_iff.1 h
  obtain ⟨b, f⟩ := List.getElem?_eq_some_iff.1 h2
  have z := List.pairwise_iff_getElem.1 hn
  rcases Nat.lt_trichotomy m j with c | c | c
  · exact absurd (f.trans e.symm) (z m j b a c)
  · exact c
  · exact absurd (e.trans f.symm) (z j m a b c)
theorem g_lidxN {K : PySem.W.Frag} {H : Hp} {Q : VK} {L : List Str} {l : Addr} {s : Str} {j : Nat} (hn : L.Nodup) (hl : H l = some (.lst (L.map V.str))) (hs : L[j]? = some s) (h : Q (.int (j : Nat)) H) : rIndex K (.ref l) [.str s] H Q := by
  refine ⟨l, _, _, j, .str s, rfl, rfl, sqL hl, rfl, flat_strs _, by rw [List.getElem?_map, hs]; rfl, by show (s == s) = true; simp, fun m z hm hz => ?_, h⟩
  rw [List.getElem?_map] at hz
  cases em : L[m]? with
  | none => rw [em] at hz; cases hz
  | some t =>
    rw [em] at hz
    cases hz
    show (t == s) = false
    have ne : t ≠ s := by
      intro e
      subst e
      have := nodup_ix hn hs em
      omega
    simpa using ne
def spRightT : Sp := fun vs H Q _ => ∃ (w : Wd) (r : Rd) (t : Tr) (wv rv tv : V), vs = [wv, rv, tv] ∧ Rep H (woodD w) wv ∧ WoodOk w ∧ Rep H (rdD r) rv ∧ RdOk w r ∧ Rep H (treeD t) tv ∧ t.length ≤ 60 ∧ t ≠ [] ∧ TreeFit w r t ∧ ∀ H', Ex H H' → Q (.bl true) H'
def AskedT (H : Hp) (x : V) : Prop := ∃ (a : Addr) (w : Wd) (r : Rd) (t : Tr) (wv rv tv : V), x = .ref a ∧ H a = some (.tup [wv, rv, tv]) ∧ Rep H (woodD w) wv ∧ WoodOk w ∧ Rep H (rdD r) rv ∧ RdOk w r ∧ Rep H (treeD t) tv ∧ t.length ≤ 60 ∧ t ≠ [] ∧ TreeFit w r t
theorem AskedT.tk {H H' : Hp} {x : V} (h : AskedT H x) (e : Tk H H') : AskedT H' x := by
  obtain ⟨a, w, r, t, wv, rv, tv, h1, h2, h3, h4, h5, h6, h7, h8⟩ := h
  exact ⟨a, w, r, t, wv, rv, tv, h1, e _ _ h2, h3.tk e (wood_hard w), h4, h5.tk e (rd_hard r), h6, h7.tk e (tree_hard t), h8⟩
theorem fxs_size {fs : List Fx} {n : Nat} (h : fs.length ≤ n) : (fxsD fs).size ≤ 1 + n * 3 := by
  have a := sizes_map (f := fxD) (b := 3) (xs := fs) fun f _ => by simp [fxD, D.size, D.sizes]
  have : fs.length * 3 ≤ n * 3 := Nat.mul_le_mul_right _ h
  unfold fxsD
  simp only [D.size]
  omega
theorem row_dp {K : PySem.W.Frag} {H : Hp} {r : Str × List Int} {v : V} (hr : TextOk r.1) (h : Rep H (rowD r) v) : DpOk K H v 60 := by
  obtain ⟨a, x, y, rfl, ha, rx, ry⟩ := Rep.twoI h
  cases rx.strI
  obtain ⟨c, ys, rfl, hc, rs⟩ := ry.tupI
  rw [rs.ints] at hc
  refine dpok_tup ha fun z hz => ?_
  rcases List.mem_cons.1 hz with rfl | hz
  · exact dpok_str hr.2
  · rw [List.mem_singleton.1 hz]
    exact dpok_tup (k := 58) hc dpok_ints
theorem rows_dp {K : PySem.W.Frag} {H : Hp} {t : Tr} {xs : List V} (ht : ∀ r ∈ t, TextOk r.1) (h : Reps H (t.map rowD) xs) : ∀ x ∈ xs, DpOk K H x 60 := fun x hx => by
  obtain ⟨j, hj⟩ := List.mem_iff_getElem?.1 hx
  obtain ⟨d, hd, rd⟩ := h.get hj
  rw [List.getElem?_map] at hd
  cases e : t[j]? with
  | none => rw [e] at hd; cases hd
  | some r =>
    rw [e] at hd
    cases hd
    exact row_dp (ht r (List.mem_of_getElem? e)) rd
end Bk

set_option Elab.async false
set_option linter.all false
set_option maxRecDepth 100000
set_option maxHeartbeats 4000000
/-! Bk37: names drawn, alike but at one place (the later laws' names). -/
namespace Bk
open PySem PySem.Spec PyProof.Rows L2
def baseL (st : List Nat) (a f k : Nat) : List Nat := st.take a ++ (97 + (f + 7 * k) % 26) :: st.drop a
def fullL (st : List Nat) (a f k : Nat) : List Nat := baseL st a f k ++ (if k % 3 = 1 then [106] else [])
def jjL (k : Nat) : List Nat := [106, 106, 97 + k % 26, 97 + k / 26]
def kindL : List Nat := [107, 105, 110, 100]
theorem kindL_eq : (Str.ofString "kind").cps.toList = kindL := by decide +kernel
theorem baseL_len {st : List Nat} {a f k : Nat} (h : a ≤ st.length) : (baseL st a f k).length = st.length + 1 := by
  unfold baseL
  rw [List.length_append, List.length_cons, List.length_take, List.length_drop]
  omega
theorem baseL_inj {st : List Nat} {a f i j : Nat} (hi : i < 26) (hj : j < 26) (h : baseL st a f i = baseL st a f j) : i = j := by
  unfold baseL at h
  have z := (List.cons.inj (List.append_cancel_left h)).1
  omega
theorem fullL_inj {st : List Nat} {a f i j : Nat} (ha : a ≤ st.length) (hi : i < 26) (hj : j < 26) (h : fullL st a f i = fullL st a f j) : i = j := by
  unfold fullL at h
  have l1 := baseL_len (f := f) (k := i) ha
  have l2 := baseL_len (f := f) (k := j) ha
  have hl := congrArg List.length h
  rw [List.length_append, List.length_append, l1, l2] at hl
  by_cases c1 : i % 3 = 1 <;> by_cases c2 : j % 3 = 1
  · rw [if_pos c1, if_pos c2] at h
    exact baseL_inj hi hj (List.append_cancel_right h)
  · rw [if_pos c1, if_neg c2] at hl
    simp at hl
  · rw [if_neg c1, if_pos c2] at hl
    simp at hl
  · rw [if_neg c1, if_neg c2] at h
    exact baseL_inj hi hj (List.append_cancel_right h)
theorem full_jj {st : List Nat} {a f i j k : Nat} (ha : a ≤ st.length) (hk : k < 26) (h : fullL st a f i = kindL) : fullL st a f j ≠ jjL k := by
  intro z
  have l1 := congrArg List.length h
  have l2 := congrArg List.length z
  unfold fullL at l1 l2 h z
  rw [List.length_append, baseL_len ha] at l1 l2
  have e4 : kindL.length = 4 := rfl
  have e5 : (jjL k).length = 4 := rfl
  rw [e4] at l1
  rw [e5] at l2
  by_cases c1 : i % 3 = 1
  · rw [if_pos c1] at l1 h
    have l3 : st.length = 2 := by simp at l1; omega
    match st, l3 with
    | [x, y], _ =>
      have : a = 0 ∨ a = 1 ∨ a = 2 := by simp at ha; omega
      rcases this with rfl | rfl | rfl <;> simp [baseL, kindL] at h
  · rw [if_neg c1] at l1 h
    have l3 : st.length = 3 := by simp at l1; omega
    have c2 : ¬ j % 3 = 1 := fun c => by
      rw [if_pos c] at l2
      simp at l2
      omega
    rw [if_neg c2] at z
    match st, l3 with
    | [x, y, u], _ =>
      have : a = 0 ∨ a = 1 ∨ a = 2 ∨ a = 3 := by simp at ha; omega
      rcases this with rfl | rfl | rfl | rfl
      · simp [baseL, kindL] at h
        simp [baseL, jjL] at z
        omega
      · simp [baseL, kindL] at h
        simp [baseL, jjL] at z
        omega
      · simp [baseL, kindL] at h
        simp [baseL, jjL] at z
        omega
      · simp [baseL, kindL] at h
        simp [baseL, jjL] at z
        omega
/-- the names so far -/
def NmAt (st : List Nat) (a f j : Nat) (s : Str) : Prop := (fullL st a f j ≠ kindL ∧ s.cps.toList = fullL st a f j) ∨ (fullL st a f j = kindL ∧ s.cps.toList = jjL j)
theorem nm_new {st : List Nat} {a f i : Nat} {ss : List Str} (ha : a ≤ st.length) (hi : i < 26) (hl : ss.length = i) (h : ∀ (j : Nat) (s : Str), ss[j]? = some s → NmAt st a f j s) :
    (∀ s : Str, s.cps.toList = fullL st a f i → s ∉ ss) ∧ ∀ s, NmAt st a f i s → s ∉ ss := by
  have k1 : ∀ s : Str, s.cps.toList = fullL st a f i → s ∉ ss := fun s e hm => by
    obtain ⟨j, hj⟩ := List.mem_iff_getElem?.1 hm
    have lj := (List.getElem?_eq_some_iff.1 hj).1
    rcases h j s hj with ⟨_, e2⟩ | ⟨e1, e2⟩
    · have := fullL_inj ha hi (by omega) (e.symm.trans e2)
      omega
    · exact full_jj ha (by omega) e1 (e.symm.trans e2)
  refine ⟨k1, fun s hs => ?_⟩
  rcases hs with ⟨_, e⟩ | ⟨e1, e2⟩
  · exact k1 s e
  · intro hm
    obtain ⟨j, hj⟩ := List.mem_iff_getElem?.1 hm
    have lj := (List.getElem?_eq_some_iff.1 hj).1
    rcases h j s hj with ⟨_, e3⟩ | ⟨e3, _⟩
    · exact full_jj ha hi e1 (e3.symm.trans e2)
    · have := fullL_inj ha hi (by omega) (e1.trans e3.symm)
      omega
theorem nm_is {st : List Nat} {a f i : Nat} {s : Str} (ha : a ≤ st.length) (hi : i < 26) (hs : ∀ c ∈ st, c ∈ lettersS.cps.toList) (h4 : st.length ≤ 4) (h : NmAt st a f i s) : isName s = true := by
  have low : ∀ c ∈ fullL st a f i, c ∈ lettersS.cps.toList := fun c hc => by
    unfold fullL baseL at hc
    simp only [List.mem_append, List.mem_cons] at hc
    rcases hc with (hc | hc | hc) | hc
    · exact hs c (List.mem_of_mem_take hc)
    · exact letters_mem.2 ⟨(f + 7 * i) % 26, Nat.mod_lt _ (by decide), hc⟩
    · exact hs c (List.mem_of_mem_drop hc)
    · split at hc
      · rw [List.mem_singleton.1 hc]
        exact letters_mem.2 ⟨9, by decide, rfl⟩
      · cases hc
  have lb := baseL_len (f := f) (k := i) ha
  rcases h with ⟨n, e⟩ | ⟨_, e⟩
  · have ll : s.length = (fullL st a f i).length := by rw [str_len, e]
    unfold fullL at ll
    rw [List.length_append, lb] at ll
    have lx : (if i % 3 = 1 then [106] else ([] : List Nat)).length ≤ 1 := by split <;> simp
    exact isName_of (fun c hc => low c (by rw [← e]; exact hc)) (by omega) (by omega) fun z => n (by rw [← e, z]; exact kindL_eq)
  · have ll : s.length = 4 := by rw [str_len, e]; rfl
    refine isName_of (fun c hc => ?_) (by omega) (by omega) fun z => ?_
    · rw [e] at hc
      simp only [jjL, List.mem_cons, List.not_mem_nil, or_false] at hc
      rcases hc with rfl | rfl | rfl | rfl
      · exact letters_mem.2 ⟨9, by decide, rfl⟩
      · exact letters_mem.2 ⟨9, by decide, rfl⟩
      · exact letters_mem.2 ⟨i % 26, Nat.mod_lt _ (by decide), rfl⟩
      · exact letters_mem.2 ⟨i / 26, by omega, rfl⟩
    · rw [z, kindL_eq] at e
      simp [kindL, jjL] at e
def spNames2 : Sp := fun vs H Q _ => ∃ (p : Addr) (many : Nat), vs = [.ref p, .int (many : Nat)] ∧ Box H p ∧ many ≤ 26 ∧ ∀ (l : Addr) (ss : List Str) (H' : Hp), ss.length = many → (∀ s ∈ ss, isName s = true) → ss.Nodup → H l = none → But p H H' → Box H' p → H' l = some (.lst (ss.map V.str)) → Q (.ref l) H'
theorem letters_mod {a : Int} {n : Nat} (h : a = (n : Int)) : atI lettersS.cps.toList (a.fmod 26) = some (97 + n % 26) := by
  subst h
  have e : Int.fmod (n : Int) 26 = ((n % 26 : Nat) : Int) := by
    rw [Int.fmod_eq_emod_of_nonneg _ (by decide)]
    rfl
  rw [e]
  exact atI_nat (letters_at (Nat.mod_lt _ (by decide)))
theorem letters_div {a : Int} {n : Nat} (h : a = (n : Int)) (hn : n < 676) : atI lettersS.cps.toList (a.fdiv 26) = some (97 + n / 26) := by
  subst h
  have e : Int.fdiv (n : Int) 26 = ((n / 26 : Nat) : Int) := by
    rw [Int.fdiv_eq_ediv_of_nonneg _ (by decide)]
    rfl
  rw [e]
  exact atI_nat (letters_at (by omega))
theorem name_list {stem : Str} {at' c : Nat} (h : at' ≤ stem.length) : ((cutS stem none (some (at' : Int)) ++ ⟨#[c]⟩) ++ cutS stem (some (at' : Int)) none).cps.toList = stem.cps.toList.take at' ++ c :: stem.cps.toList.drop at' := by
  rw [app_list, app_list, cut_to h, cut_from h, List.append_assoc]
  rfl
def spWoodK : Sp := fun vs H Q _ => ∃ (p : Addr) (mk mm : Nat), vs = [.ref p, .int (mk : Nat), .int (mm : Nat)] ∧ Box H p ∧ (1 ≤ mk ∧ mk ≤ 4) ∧ (1 ≤ mm ∧ mm ≤ 12) ∧ ∀ (w : Wd) (v : V) (H' : Hp), WoodOk w → Rep H' (woodD w) v → But p H H' → Box H' p → Q v H'
theorem row_le : ∀ {R : List (List Mk)} {q : Nat} {r : List Mk}, R[q]? = some r → r.length ≤ (rowNames R).length
  | [], q, r, h => by simp at h
  | s :: R, q, r, h => by
    show _ ≤ (s.map Prod.fst ++ rowNames R).length
    rw [List.length_append, List.length_map]
    cases q with
    | zero => cases h; omega
    | succ q =>
      have := row_le (R := R) (q := q) h
      omega
end Bk

set_option Elab.async false
set_option linter.all false
set_option maxRecDepth 100000
set_option maxHeartbeats 4000000
/-! Bk38: dicts whose keys are (text, (whole numbers)). -/
namespace Bk
open PySem PySem.Spec PyProof.Rows L2
/-- a mark: a name and whole numbers -/
abbrev Mark := Str × List Int
def nk (m : Mark) : NestedKey := .tup [.text m.1, .tup (m.2.map NestedKey.num)]
theorem nums_inj : ∀ {a b : List Int}, a.map NestedKey.num = b.map NestedKey.num → a = b
  | [], [], _ => rfl
  | [], _ :: _, h => nomatch h
  | _ :: _, [], h => nomatch h
  | x :: a, y :: b, h => by
    rw [List.map_cons, List.map_cons] at h
    injection h with h1 h2
    injection h1 with h1
    rw [h1, nums_inj h2]
theorem nk_inj {a b : Mark} (h : nk a = nk b) : a = b := by
  unfold nk at h
  injection h with h
  injection h with h1 h2
  injection h1 with h1
  injection h2 with h2 _
  injection h2 with h2
  exact Prod.ext h1 (nums_inj h2)
theorem nums_depth : ∀ l : List Int, NestedKey.depthAll (l.map NestedKey.num) = 0
  | [] => rfl
  | i :: l => by
    show max 0 (NestedKey.depthAll (l.map NestedKey.num)) = 0
    rw [nums_depth l]
    rfl
theorem nk_depth (m : Mark) : (nk m).depth ≤ 8 := by
  unfold nk
  simp only [NestedKey.depth, NestedKey.depthAll, nums_depth]
  decide
/-- the mark m stands at a -/
def MarkAt (H : Hp) (a : Addr) (m : Mark) : Prop := ∃ t, H a = some (.tup [.str m.1, .ref t]) ∧ H t = some (.tup (m.2.map V.int))
theorem MarkAt.tk {H H' : Hp} {a : Addr} {m : Mark} (t : Tk H H') (h : MarkAt H a m) : MarkAt H' a m := by
  obtain ⟨q, a1, a2⟩ := h
  exact ⟨q, t _ _ a1, t _ _ a2⟩
theorem nums_all {h : Heap} : ∀ {l : List Int} {us : List Value}, Vals (l.map V.int) us → NestedAll h (l.map NestedKey.num) us
  | [], _, r => by
    rw [List.map_nil] at r
    cases r
    exact .nil
  | i :: l, _, r => by
    rw [List.map_cons] at r
    cases r with
    | cons h1 t =>
      obtain ⟨tk, rfl⟩ := h1
      exact .cons (.int i tk) (nums_all t)
theorem mark_is {P : Program} {w : World} {H : Hp} {h : Heap} {a : Addr} {m : Mark} (ok : HOk P w H h) (e : MarkAt H a m) : (nestedKind P w).is h (nk m) a := by
  obtain ⟨t, ha, ht⟩ := e
  obtain ⟨_, its, r, o, h1, h2, n, h3⟩ := (show ObjOk P w H h a (.tup [.str m.1, .ref t]) from ok a _ ha)
  obtain ⟨_, its2, r2, o2, k1, k2, n2, k3⟩ := (show ObjOk P w H h t (.tup (m.2.map V.int)) from ok t _ ht)
  refine ⟨.tup h1 h2 h3 ?_, nk_depth m⟩
  cases r with
  | cons q1 r =>
    cases r with
    | cons q2 r =>
      cases r
      obtain ⟨tk, rfl⟩ := q1
      cases (show _ = Value.ref t from q2)
      show NestedAll h [_, _] [_, _]
      refine .cons (.text _ _) (.cons (.tup k1 k2 k3 ?_) .nil)
      show NestedAll h _ its2
      exact nums_all r2
/-- the entries: mark, its address, what is held -/
abbrev Nx : List (Mark × Addr × V) → List (NestedKey × Addr × Value) → Prop := Paired fun p q => q.1 = nk p.1 ∧ q.2.1 = p.2.1 ∧ RelV p.2.2 q.2.2
def kvm (ps : List (Mark × Addr × V)) : List (Mark × V) := ps.map fun p => (p.1, p.2.2)
def NdO (P : Program) (w : World) (a : Addr) (ps : List (Mark × Addr × V)) : HO := .ext fun h => ps.length ≤ sizeLine ∧ (a == sysModules) = false ∧ ∃ xs, Nx ps xs ∧
  ∃ o es ep, h.get? a = some o ∧ o.ExactDict ∧ o.data = .dict es ep ∧ es.toList = xs.map (entryOfKey (nestedKind P w)) ∧ (xs.map (·.1)).Nodup
/-- the dict at a has these entries -/
def NdAt (P : Program) (w : World) (H : Hp) (a : Addr) (ps : List (Mark × Addr × V)) : Prop := (H a = some (NdO P w a ps) ∨ (ps = [] ∧ H a = some (.dK []))) ∧ ∀ p ∈ ps, MarkAt H p.2.1 p.1
section
variable {P : Program} {w : World} {H : Hp} {h : Heap} {a : Addr} {ps : List (Mark × Addr × V)}
theorem NdAt.mut (g : NdAt P w H a ps) : Mut (H a) := by
  rcases g.1 with e | ⟨_, e⟩
  · rw [e]
    exact True.intro
  · rw [e]
    exact True.intro
theorem NdAt.notTup (g : NdAt P w H a ps) : ∀ b ys, H b = some (.tup ys) → b ≠ a := fun b ys e z => by
  subst z
  rcases g.1 with q | ⟨_, q⟩
  · rw [e] at q
    cases q
  · rw [e] at q
    cases q
theorem NdAt.at_some (g : NdAt P w H a ps) : H a = some ((H a).getD (.dK [])) := by
  rcases g.1 with e | ⟨_, e⟩ <;> rw [e] <;> rfl
theorem NdAt.ex {H' : Hp} (g : NdAt P w H a ps) (e : Ex H H') : H' a = H a := by
  rw [g.at_some]
  exact e _ _ g.at_some
theorem nd_of (ok : HOk P w H h) (g : NdAt P w H a ps) : ps.length ≤ sizeLine ∧ (a == sysModules) = false ∧ ∃ xs, Nx ps xs ∧ h.DictOfH (nestedKind P w) a xs := by
  obtain ⟨g1, g2⟩ := g
  rcases g1 with e | ⟨rfl, e⟩
  · obtain ⟨⟨z, hd, xs, r, o, es, ep, h1, h2, h3, h4, h5⟩, _⟩ := (show ObjOk P w H h a (NdO P w a ps) from ok a _ e)
    refine ⟨z, hd, xs, r, o, es, ep, h1, h2, h3, h4, fun x hx => ?_, h5⟩
    have all : ∀ {l : List (Mark × Addr × V)} {m : List (NestedKey × Addr × Value)}, Nx l m → (∀ p ∈ l, MarkAt H p.2.1 p.1) → ∀ x ∈ m, (nestedKind P w).is h x.1 x.2.1 := by
      intro l m q
      induction q with
      | nil => intro _ x hx; exact nomatch hx
      | @cons p q ps qs hq t ih =>
        intro hm x hx
        rcases List.mem_cons.mp hx with e | hx
        · subst e
          rw [hq.1, hq.2.1]
          exact mark_is ok (hm p (List.mem_cons_self ..))
        · exact ih (fun p hp => hm p (List.mem_cons_of_mem _ hp)) x hx
    exact all r g2 x hx
  · obtain ⟨z, hd, vs, rel, o, es, ep, h1, h2, h3, h4, h5, h6⟩ := dk_of ok e
    cases rel
    refine ⟨Nat.zero_le _, hd, [], .nil, o, es, ep, h1, h2, h3, ?_, fun x hx => (nomatch hx), List.nodup_nil⟩
    cases q : es.toList with
    | nil => rfl
    | cons x r =>
      rw [q] at h5
      cases h5
theorem Nx.val {xs : List (NestedKey × Addr × Value)} (r : Nx ps xs) (m : Mark) : RelO (valV (kvm ps) m) ((atKey xs (nk m)).map (·.2)) := by
  induction r with
  | nil => exact True.intro
  | @cons p q ps qs h t ih =>
    obtain ⟨h1, _, h2⟩ := h
    by_cases e : p.1 = m
    · have e' : q.1 = nk m := by rw [h1, e]
      have b : atKey (q :: qs) (nk m) = some q.2 := by simp [atKey, List.find?_cons, e']
      rw [b]
      show RelO (valV ((p.1, p.2.2) :: kvm ps) m) _
      rw [valV_pos (p := (p.1, p.2.2)) e]
      exact h2
    · have e' : ¬ q.1 = nk m := fun z => e (nk_inj (h1.symm.trans z))
      have b : atKey (q :: qs) (nk m) = atKey qs (nk m) := by simp [atKey, List.find?_cons, e']
      rw [b]
      show RelO (valV ((p.1, p.2.2) :: kvm ps) m) _
      rw [valV_neg (p := (p.1, p.2.2)) e]
      exact ih
theorem Nx.len {xs : List (NestedKey × Addr × Value)} (r : Nx ps xs) : ps.length = xs.length := Paired.length r
theorem Nx.new {xs : List (NestedKey × Addr × Value)} (r : Nx ps xs) {m : Mark} (hv : valV (kvm ps) m = none) : atKey xs (nk m) = none := by
  have := r.val m
  rw [hv] at this
  cases c : atKey xs (nk m) with
  | none => rfl
  | some p =>
    rw [c] at this
    exact (this : False).elim
theorem NdAt.keep {H' : Hp} (g : NdAt P w H a ps) (ha : H' a = H a) (t : Tk H H') : NdAt P w H' a ps := ⟨by rw [ha]; exact g.1, fun p hp => (g.2 p hp).tk t⟩
/-- an entry put behind -/
theorem NdAt.snoc (g : NdAt P w H a ps) {m : Mark} {b : Addr} (hb : MarkAt H b m) (v : V) : NdAt P w (upd H a (NdO P w a (ps ++ [(m, b, v)]))) a (ps ++ [(m, b, v)]) := by
  have t : Tk H (upd H a (NdO P w a (ps ++ [(m, b, v)]))) := fun c ys e => by
    rw [upd_ne (g.notTup c ys e)]
    exact e
  refine ⟨.inl upd_same, fun p hp => ?_⟩
  rcases List.mem_append.1 hp with hp | hp
  · exact (g.2 p hp).tk t
  · rw [List.mem_singleton.1 hp]
    exact hb.tk t
end
section
variable {X : Cx} {pins : List (Addr × Obj)} {σ : L2.St} {H : Hp} {s : Shared} {a b : Addr} {ps : List (Mark × Addr × V)} {m : Mark} {A : Around} {E : Value → Shared → Prop}
theorem nd_room (hu : A.units + 64 < cLine) : (nestedKind X.prog X.w).room A.in1 := by
  show A.in1.units + 8 < cLine
  rw [Around.in1_units]
  omega
theorem nd_getItem {v : V} {Q : Value → Shared → Prop} (hu : A.units + 64 < cLine) (I : Inv X pins σ H s) (g : NdAt X.prog X.w H a ps) (hb : MarkAt H b m) (l : valV (kvm ps) m = some v)
    (h : ∀ w' s', Inv X pins σ H s' → RelV v w' → Q w' s') : wpAny (model X.prog X.w) A (getItem (.ref a) (.ref b)) Q E s := by
  obtain ⟨z, hd, xs, rel, dd⟩ := nd_of I.hok g
  obtain ⟨w', hw, rw'⟩ := RelO.some_of (v := v) (o := (atKey xs (nk m)).map (·.2)) (by rw [← l]; exact rel.val m)
  obtain ⟨p, hp, hp2⟩ := Option.map_eq_some_iff.mp hw
  refine wpAny_getItem_heap (nd_room hu) (mark_is I.hok hb) dd hp ?_
  rw [hp2]
  exact h w' _ (I.tok _) rw'
theorem nd_in {Q : Value → Shared → Prop} (hu : A.units + 64 < cLine) (I : Inv X pins σ H s) (g : NdAt X.prog X.w H a ps) (hb : MarkAt H b m) (h : ∀ s', Inv X pins σ H s' → Q (.bool (valV (kvm ps) m).isSome) s') :
    wpAny (model X.prog X.w) A (compareOp .In (.ref b) (.ref a)) Q E s := by
  obtain ⟨z, hd, xs, rel, dd⟩ := nd_of I.hok g
  refine wpAny_in_heap (nd_room hu) (mark_is I.hok hb) hd dd ?_
  have q := (rel.val m).isSome_eq
  rw [Option.isSome_map] at q
  rw [← q]
  exact h _ (I.tok _)
theorem nd_notIn {Q : Value → Shared → Prop} (hu : A.units + 64 < cLine) (I : Inv X pins σ H s) (g : NdAt X.prog X.w H a ps) (hb : MarkAt H b m) (h : ∀ s', Inv X pins σ H s' → Q (.bool (!(valV (kvm ps) m).isSome)) s') :
    wpAny (model X.prog X.w) A (compareOp .NotIn (.ref b) (.ref a)) Q E s := by
  obtain ⟨z, hd, xs, rel, dd⟩ := nd_of I.hok g
  refine wpAny_notIn_heap (nd_room hu) (mark_is I.hok hb) hd dd ?_
  have q := (rel.val m).isSome_eq
  rw [Option.isSome_map] at q
  rw [← q]
  exact h _ (I.tok _)
/-- the dict's object behind a new entry -/
theorem nd_new {xs : List (NestedKey × Addr × Value)} {v : V} {r : Value} {H' : Hp} {h' : Heap} (z : ps.length < sizeLine) (hd : (a == sysModules) = false) (rel : Nx ps xs) (hn : atKey xs (nk m) = none) (rv : RelV v r)
    (dd : h'.DictOfH (nestedKind X.prog X.w) a (storedH xs (nk m) b r)) : ObjOk X.prog X.w H' h' a (NdO X.prog X.w a (ps ++ [(m, b, v)])) := by
  rw [storedH_new hn] at dd
  obtain ⟨o, es, ep, h1, h2, h3, h4, _, h5⟩ := dd
  refine ⟨⟨by rw [List.length_append]; exact z, hd, _, Paired.snoc rel ⟨rfl, rfl, rv⟩, o, es, ep, h1, h2, h3, h4, h5⟩, ⟨o, h1⟩, fun g1 g2 q k => ?_⟩
  obtain ⟨z, hd, xs, r, o, es, ep, h1, h2⟩ := q
  exact ⟨z, hd, xs, r, o, es, ep, k _ h1, h2⟩
theorem nd_setItem {v : V} {r : Value} {Q : Unit → Shared → Prop} (hu : A.units + 64 < cLine) (I : Inv X pins σ H s) (g : NdAt X.prog X.w H a ps) (hb : MarkAt H b m) (l : valV (kvm ps) m = none) (z : ps.length < sizeLine) (rv : RelV v r)
    (h : ∀ s', Inv X pins σ (upd H a (NdO X.prog X.w a (ps ++ [(m, b, v)]))) s' → Q () s') : wpAny (model X.prog X.w) A (setItem (.ref a) (.ref b) r) Q E s := by
  obtain ⟨_, hd, xs, rel, dd⟩ := nd_of I.hok g
  refine wpAny_setItem_heap (hsz := by rw [← rel.len]; omega) (nd_room hu) (mark_is I.hok hb) dd fun h' dd' hs => h _ ?_
  have he : ∃ q, h'.get? a = some q := let ⟨q, _, _, hq, _⟩ := dd'; ⟨q, hq⟩
  exact d_write I g.mut hs he (nd_new z hd rel (rel.new l) rv dd')
end
def tNGet (P : Program) (w : World) (td ty : TE) : TE := fun σ H Q => td σ H fun x H1 => ty σ H1 fun y H2 => ∃ a b ps m v, x = .ref a ∧ y = .ref b ∧ NdAt P w H2 a ps ∧ MarkAt H2 b m ∧ valV (kvm ps) m = some v ∧ Q v H2
def tNIn (P : Program) (w : World) (ty td : TE) : TE := fun σ H Q => ty σ H fun y H1 => td σ H1 fun x H2 => ∃ a b ps m, x = .ref a ∧ y = .ref b ∧ NdAt P w H2 a ps ∧ MarkAt H2 b m ∧ Q (.bl (valV (kvm ps) m).isSome) H2
def tNNotIn (P : Program) (w : World) (ty td : TE) : TE := fun σ H Q => ty σ H fun y H1 => td σ H1 fun x H2 => ∃ a b ps m, x = .ref a ∧ y = .ref b ∧ NdAt P w H2 a ps ∧ MarkAt H2 b m ∧ Q (.bl (!(valV (kvm ps) m).isSome)) H2
def sNPut (P : Program) (w : World) (td ty tv : TE) : TS := fun D σ H => tv σ H fun v H1 => td σ H1 fun x H2 => ty σ H2 fun y H3 => ∃ a b ps m, x = .ref a ∧ y = .ref b ∧ NdAt P w H3 a ps ∧ MarkAt H3 b m ∧ valV (kvm ps) m = none ∧ ps.length ≤ 1000000 ∧
  D.nx σ (upd H3 a (NdO P w a (ps ++ [(m, b, v)])))
section
variable {X : Cx} {o i e value : Expr} {pos pos' tpos : Pos} {td ty tv : TE}
theorem nd_typeIs {pins : List (Addr × Obj)} {σ : L2.St} {H : Hp} {s : Shared} {a : Addr} {ps : List (Mark × Addr × V)} (I : Inv X pins σ H s) (g : NdAt X.prog X.w H a ps) : s.TypeIs (.ref a) "dict" := by
  obtain ⟨_, _, xs, _, dd⟩ := nd_of I.hok g
  exact dd.typeIs
theorem pe_nget (hu : X.A.units + 64 < cLine) (ho : PE X o td) (hi : PE X i ty) (hs : NoSl i) : PE X (.Subscript o i pos) (tNGet X.prog X.w td ty) := by
  refine ⟨fun pins s σ H Q I h => ?_⟩
  refine subD_of PySem.F.slot_dict_getitem.lookup hs (thn (ho.run pins s σ H _ I h) fun u s1 ⟨x, H1, I1, rx, q1⟩ => thn (hi.run pins s1 σ H1 _ I1 q1) fun iv s2 ⟨y, H2, I2, ry, a, b, ps, m, v, ex, ey, g, hb, l, q2⟩ => ?_)
  subst ex ey
  obtain rfl : u = Value.ref a := rx
  obtain rfl : iv = Value.ref b := ry
  exact ⟨nd_typeIs I2 g, nd_getItem hu I2 g hb l fun w' s3 I3 rw' => ⟨v, H2, I3, rw', q2⟩⟩
theorem pc_nin (hu : X.A.units + 64 < cLine) (hi : PE X i ty) (ho : PE X o td) : PC X .In i o (tNIn X.prog X.w ty td) := by
  refine ⟨fun pins s σ H Q I h => ?_⟩
  refine thn (hi.run pins s σ H _ I h) fun iv s1 ⟨y, H1, I1, ry, q1⟩ => thn (ho.run pins s1 σ H1 _ I1 q1) fun u s2 ⟨x, H2, I2, rx, a, b, ps, m, ex, ey, g, hb, q2⟩ => ?_
  subst ex ey
  obtain rfl : u = Value.ref a := rx
  obtain rfl : iv = Value.ref b := ry
  exact nd_in hu I2 g hb fun s3 I3 => ⟨.bl (valV (kvm ps) m).isSome, H2, I3, rfl, q2⟩
theorem pc_nnotin (hu : X.A.units + 64 < cLine) (hi : PE X i ty) (ho : PE X o td) : PC X .NotIn i o (tNNotIn X.prog X.w ty td) := by
  refine ⟨fun pins s σ H Q I h => ?_⟩
  refine thn (hi.run pins s σ H _ I h) fun iv s1 ⟨y, H1, I1, ry, q1⟩ => thn (ho.run pins s1 σ H1 _ I1 q1) fun u s2 ⟨x, H2, I2, rx, a, b, ps, m, ex, ey, g, hb, q2⟩ => ?_
  subst ex ey
  obtain rfl : u = Value.ref a := rx
  obtain rfl : iv = Value.ref b := ry
  exact nd_notIn hu I2 g hb fun s3 I3 => ⟨.bl (!(valV (kvm ps) m).isSome), H2, I3, rfl, q2⟩
theorem ps_nput (hu : X.A.units + 64 < cLine) (ho : PE X o td) (hi : PE X i ty) (hv : PE X value tv) (hs : swapsWith value (some (.Subscript o i pos')) pos.line X.env = pure false) :
    PS X (.Assign [.Subscript o i pos'] value pos) (sNPut X.prog X.w td ty tv) := by
  refine ⟨fun pins s σ H D I h => ?_⟩
  refine wpAny_Assign_Subscript (thn (hv.run pins s σ H _ I h) fun r s1 ⟨v, H1, I1, rv, q1⟩ => thn (ho.run pins s1 σ H1 _ I1 q1) fun u s2 ⟨x, H2, I2, rx, q2⟩ => thn (hi.run pins s2 σ H2 _ I2 q2) fun iv s3 ⟨y, H3, I3, ry, a, b, ps, m, ex, ey, g, hb, l, z, q3⟩ => ?_) hs
  subst ex ey
  obtain rfl : u = Value.ref a := rx
  obtain rfl : iv = Value.ref b := ry
  exact nd_setItem hu I3 g hb l (Nat.lt_of_le_of_lt z (by decide)) rv fun s4 I4 => ⟨σ, _, I4, q3⟩
end
section
variable {P : Program} {w : World} {td ty tv : TE} {σ : L2.St} {H : Hp} {Q : VK} {D : Ends}
theorem g_ng (h : td σ H fun x H1 => ty σ H1 fun y H2 => ∃ a b ps m v, x = .ref a ∧ y = .ref b ∧ NdAt P w H2 a ps ∧ MarkAt H2 b m ∧ valV (kvm ps) m = some v ∧ Q v H2) : tNGet P w td ty σ H Q := h
theorem g_nni (h : ty σ H fun y H1 => td σ H1 fun x H2 => ∃ a b ps m, x = .ref a ∧ y = .ref b ∧ NdAt P w H2 a ps ∧ MarkAt H2 b m ∧ Q (.bl (!(valV (kvm ps) m).isSome)) H2) : tNNotIn P w ty td σ H Q := h
theorem g_np (h : tv σ H fun v H1 => td σ H1 fun x H2 => ty σ H2 fun y H3 => ∃ a b ps m, x = .ref a ∧ y = .ref b ∧ NdAt P w H3 a ps ∧ MarkAt H3 b m ∧ valV (kvm ps) m = none ∧ ps.length ≤ 1000000 ∧
  D.nx σ (upd H3 a (NdO P w a (ps ++ [(m, b, v)])))) : sNPut P w td ty tv D σ H := h
end
theorem kvm_app (ps : List (Mark × Addr × V)) (m : Mark) (b : Addr) (v : V) : kvm (ps ++ [(m, b, v)]) = kvm ps ++ [(m, v)] := by
  unfold kvm
  rw [List.map_append]
  rfl
end Bk

set_option Elab.async false
set_option linter.all false
set_option maxRecDepth 100000
set_option maxHeartbeats 4000000
/-! Bk39: printers as data, drawn. -/
namespace Bk
open PySem PySem.Spec PyProof.Rows L2
/-! ### list(text) -/
def ones (x : Str) : List V := x.cps.toList.map fun c => V.str (one c)
def rListS : List V → Hp → VK → Prop := fun xs H Q => ∃ x : Str, xs = [.str x] ∧ x.length ≤ 1000000 ∧ ∀ l, H l = none → Q (.ref l) (upd H l (.lst (ones x)))
theorem call_listS {X : Cx} (hc : X.calm = true) : CallR X (.type "list") rListS := by
  intro pins s σ H xs us Q I r h
  obtain ⟨x, rfl, hz, q⟩ := h
  obtain ⟨u, rfl, rx⟩ := vals1 r
  obtain ⟨t, rfl⟩ := rx
  have hz2 : x.cps.size ≤ sizeLine := Nat.le_trans hz (by decide)
  refine call_list_str (hn := hz2) (I.ok.hd hc) x t fun h' tk acc' c' hk hS hacc => ?_
  refine ⟨.ref s.heap.objs.size, _, I.laid (t' := tk) (o := .lst (ones x)) hk (Nat.le_refl _) ⟨by unfold ones; rw [List.length_map]; simpa using hz2, acc'.toList, c', ?_, by rw [Array.toArray_toList]; exact hS⟩, rfl, q _ (I.hok.fresh (Nat.le_refl _))⟩
  refine vals_of_idx _ _ (by unfold ones; rw [List.length_map, Array.length_toList, hacc.1]; simp) fun j v hv => ?_
  obtain ⟨c, u2, hcc, rfl⟩ := hacc.2 j v (by rw [← Array.getElem?_toList]; exact hv)
  exact ⟨V.str (one c), by unfold ones; simp [hcc], ⟨_, rfl⟩⟩
theorem g_listS {x : Str} {H : Hp} {Q : VK} (hz : x.length ≤ 1000000) (h : ∀ l, H l = none → Q (.ref l) (upd H l (.lst (ones x)))) : rListS [.str x] H Q := ⟨x, rfl, hz, h⟩
def signL : List Nat := (List.range 127).filter fun c => decide (33 ≤ c ∧ c ≠ 37)
def signS : Str := "!\"#$&'()*+,-./0123456789:;<=>?@ABCDEFGHIJKLMNOPQRSTUVWXYZ[\\]^_`abcdefghijklmnopqrstuvwxyz{|}~"
theorem signS_list : signS.cps.toList = signL := by decide +kernel
theorem signL_len : signL.length = 93 := by decide +kernel
theorem signL_nd : signL.Nodup := List.filter_sublist.nodup List.nodup_range
theorem signL_low {c : Nat} (h : c ∈ signL) : 33 ≤ c ∧ c ≤ 126 ∧ c ≠ 37 := by
  obtain ⟨a, b⟩ := List.mem_filter.1 h
  have := List.mem_range.1 a
  have := of_decide_eq_true b
  omega
def sgV (c : Nat) : V := V.str (one c)
/-! ### printers -/
abbrev Itm := Str ⊕ (Int × Int)
def bdD (b : Int × Int) : D := .tup [.int b.1, .int b.2]
def itD : Itm → D
  | .inl s => .str s
  | .inr b => bdD b
def rwD (r : List Itm) : D := .tup (r.map itD)
def rpD (x : List (List Itm)) : D := .tup (x.map rwD)
abbrev Prn := Str × List Int × List (List (List Itm))
def prD (p : Prn) : D := .tup [.str p.1, .tup (p.2.1.map D.int), .tup (p.2.2.map rpD)]
theorem it_hard (i : Itm) : (itD i).hard = true := by cases i <;> rfl
theorem bd_hard (b : Int × Int) : (bdD b).hard = true := rfl
theorem rw_hard (r : List Itm) : (rwD r).hard = true := hards_map it_hard r
theorem rp_hard (x : List (List Itm)) : (rpD x).hard = true := hards_map rw_hard x
theorem pr_hard (p : Prn) : (prD p).hard = true := by
  show (true && (D.hards (p.2.1.map D.int) && (D.hards (p.2.2.map rpD) && true))) = true
  rw [ints_hard, hards_map rp_hard]
  rfl
def boxOf : Itm → Option (Int × Int)
  | .inl _ => none
  | .inr b => some b
structure LtOk (s : Str) : Prop where
  pos : 1 ≤ s.length
  most : s.length ≤ 9
  nd : s.cps.toList.Nodup
  low : ∀ c ∈ s.cps.toList, 33 ≤ c ∧ c ≤ 126 ∧ c ≠ 37
/-- a box of the parts -/
def BxIn (cs ps : List Int) (b : Int × Int) : Prop := (0 ≤ b.1 ∧ b.1 < (ps.length : Nat)) ∧ 0 ≤ b.2 ∧ b.2 < cntAt cs (ps.getD b.1.toNat 0)
def ItOk (ls : Str) (cs ps : List Int) : Itm → Prop
  | .inl s => (1 ≤ s.length ∧ s.length ≤ 8) ∧ ∀ c ∈ s.cps.toList, c ∈ ls.cps.toList
  | .inr b => BxIn cs ps b
structure RpOk (ls : Str) (cs ps : List Int) (n : Int) (x : List (List Itm)) : Prop where
  len : (x.length : Int) = n
  many : x.flatten.length ≤ 6
  item : ∀ i ∈ x.flatten, ItOk ls cs ps i
  once : (x.flatten.filterMap boxOf).Nodup
structure PrOk (w : Wd) (p : Prn) : Prop where
  lets : LtOk p.1
  counts : p.2.1.length = w.length
  count : ∀ c ∈ p.2.1, 0 ≤ c ∧ c ≤ 2
  rules : p.2.2.length = (tabFrom 0 w).length
  rule : ∀ (j : Nat) (e : Nat × Mk) (x : List (List Itm)), (tabFrom 0 w)[j]? = some e → p.2.2[j]? = some x → RpOk p.1 p.2.1 (dueOf w e) (cntAt p.2.1 e.1) x
/-- everything stands but two boxes -/
def But2 (p l : Addr) (H H' : Hp) : Prop := ∀ b o, b ≠ p → b ≠ l → H b = some o → H' b = some o
def spLetters : Sp := fun vs H Q _ => ∃ (p : Addr) (many : Nat), vs = [.ref p, .int (many : Nat)] ∧ Box H p ∧ 1 ≤ many ∧ many ≤ 9 ∧ ∀ (s : Str) (H' : Hp), LtOk s → But p H H' → Box H' p → Q (.str s) H'
def spItemT : Sp := fun vs H Q _ => ∃ (p : Addr) (ls : Str), vs = [.ref p, .str ls] ∧ Box H p ∧ 1 ≤ ls.length ∧ ls.length ≤ 1000 ∧ ∀ (s : Str) (H' : Hp), 1 ≤ s.length → s.length ≤ 8 → (∀ c ∈ s.cps.toList, c ∈ ls.cps.toList) → But p H H' → Box H' p → Q (.str s) H'
def spTextCounts : Sp := fun vs H Q _ => ∃ (p : Addr) (w : Wd) (v : V) (most : Nat), vs = [.ref p, v, .int (most : Nat)] ∧ Box H p ∧ Rep H (woodD w) v ∧ WoodOk w ∧ most ≤ 1000 ∧
  ∀ (c : Addr) (cs : List Int) (H' : Hp), H' c = some (.tup (cs.map V.int)) → cs.length = w.length → (∀ x ∈ cs, 0 ≤ x ∧ x ≤ 2) → But p H H' → Box H' p → Q (.ref c) H'
def spBoxesLeft : Sp := fun vs H Q _ => ∃ (t c : Addr) (ps cs : List Int), vs = [.ref t, .ref c] ∧ H t = some (.tup (ps.map V.int)) ∧ H c = some (.tup (cs.map V.int)) ∧ ps.length ≤ 2 ∧ (∀ n ∈ ps, 0 ≤ n ∧ n < (cs.length : Nat)) ∧ (∀ x ∈ cs, 0 ≤ x ∧ x ≤ 2) ∧
  ∀ (l : Addr) (vs : List V) (bs : List (Int × Int)) (H' : Hp), H l = none → Ex H H' → H' l = some (.lst vs) → Reps H' (bs.map bdD) vs → bs.length ≤ 4 → bs.Nodup → (∀ b ∈ bs, BxIn cs ps b) → Q (.ref l) H'
def spRowsOf : Sp := fun vs H Q _ => ∃ (p l : Addr) (ls : Str) (many : Nat) (cs ps : List Int) (bs : List (Int × Int)) (bv : List V), vs = [.ref p, .str ls, .int (many : Nat), .ref l] ∧ Box H p ∧ 1 ≤ ls.length ∧ ls.length ≤ 1000 ∧ many ≤ 2 ∧
  H l = some (.lst bv) ∧ Reps H (bs.map bdD) bv ∧ bs.length ≤ 4 ∧ bs.Nodup ∧ (∀ b ∈ bs, BxIn cs ps b) ∧
  ∀ (v : V) (x : List (List Itm)) (H' : Hp), RpOk ls cs ps (many : Nat) x → Rep H' (rpD x) v → But2 p l H H' → Box H' p → Q v H'
def spPrinter : Sp := fun vs H Q _ => ∃ (p c : Addr) (w : Wd) (v : V) (ls : Str) (cs : List Int), vs = [.ref p, v, .str ls, .ref c] ∧ Box H p ∧ Rep H (woodD w) v ∧ WoodOk w ∧ LtOk ls ∧ H c = some (.tup (cs.map V.int)) ∧ cs.length = w.length ∧ (∀ x ∈ cs, 0 ≤ x ∧ x ≤ 2) ∧
  ∀ (pr : Prn) (v : V) (H' : Hp), PrOk w pr → Rep H' (prD pr) v → But p H H' → Box H' p → Q v H'
theorem bd_rep {H : Hp} {b : Int × Int} {v : V} (h : Rep H (bdD b) v) : ∃ a, v = .ref a ∧ H a = some (.tup [.int b.1, .int b.2]) := fx_at (f := b) h
theorem Rep.bd {H : Hp} {b : Int × Int} {a : Addr} (h : H a = some (.tup [.int b.1, .int b.2])) : Rep H (bdD b) (.ref a) := Rep.fx (f := b) h
/-! ### lists that are filled row by row -/
structure RowsI (H : Hp) (ras : List Addr) (R : List (List Itm)) : Prop where
  len : ras.length = R.length
  nd : ras.Nodup
  at_ : ∀ (q : Nat) (a : Addr) (r : List Itm), ras[q]? = some a → R[q]? = some r → ∃ us, H a = some (.lst us) ∧ Reps H (r.map itD) us
theorem RowsI.get {H : Hp} {ras : List Addr} {R : List (List Itm)} (h : RowsI H ras R) {q : Nat} (hq : q < R.length) : ∃ a r us, ras[q]? = some a ∧ R[q]? = some r ∧ H a = some (.lst us) ∧ Reps H (r.map itD) us := by
  have hq2 : q < ras.length := by rw [h.len]; exact hq
  obtain ⟨us, a, b⟩ := h.at_ q _ _ (List.getElem?_eq_getElem hq2) (List.getElem?_eq_getElem hq)
  exact ⟨_, _, us, List.getElem?_eq_getElem hq2, List.getElem?_eq_getElem hq, a, b⟩
theorem RowsI.keep {H H' : Hp} {ras : List Addr} {R : List (List Itm)} (h : RowsI H ras R) (t : Tk H H') (k : ∀ a ∈ ras, ∀ us, H a = some (.lst us) → H' a = some (.lst us)) : RowsI H' ras R := ⟨h.len, h.nd, fun q a r ha hr => by
  obtain ⟨us, hu, rs⟩ := h.at_ q a r ha hr
  exact ⟨us, k a (List.mem_of_getElem? ha) us hu, rs.tkm t it_hard⟩⟩
theorem RowsI.put {H : Hp} {ras : List Addr} {R : List (List Itm)} {q : Nat} {a : Addr} {r : List Itm} {us : List V} {m : Itm} {v : V} (h : RowsI H ras R) (ha : ras[q]? = some a) (hr : R[q]? = some r) (hu : H a = some (.lst us)) (rs : Reps H (r.map itD) us) (rv : Rep H (itD m) v) : RowsI (upd H a (.lst (us ++ [v]))) ras (R.set q (r ++ [m])) := by
  have tk : Tk H (upd H a (.lst (us ++ [v]))) := ((But.refl a H).upd).tkl hu
  refine ⟨by rw [List.length_set]; exact h.len, h.nd, fun j b s hb hs => ?_⟩
  by_cases c : q = j
  · subst c
    have hl : q < R.length := (List.getElem?_eq_some_iff.1 hr).1
    rw [List.getElem?_set_self hl] at hs
    cases hs
    rw [ha] at hb
    cases hb
    exact ⟨us ++ [v], upd_same, reps_snoc (rs.tkm tk it_hard) (rv.tk tk (it_hard m))⟩
  · rw [List.getElem?_set_ne c] at hs
    obtain ⟨ws, hw, rw'⟩ := h.at_ j b s hb hs
    have ne : b ≠ a := fun e => False.elim (by
      rw [e] at hb
      have h1 := (List.getElem?_eq_some_iff.1 ha)
      have h2 := (List.getElem?_eq_some_iff.1 hb)
      have z := List.pairwise_iff_getElem.1 h.nd
      rcases Nat.lt_or_gt_of_ne c with l | l
      · exact absurd (h1.2.trans h2.2.symm) (z q j h1.1 h2.1 l)
      · exact absurd (h2.2.trans h1.2.symm) (z j q h2.1 h1.1 l))
    exact ⟨ws, by rw [upd_ne ne]; exact hw, rw'.tkm tk it_hard⟩
theorem flat_put {α : Type} : ∀ (R : List (List α)) (q : Nat) (r : List α) (m : α), R[q]? = some r → (R.set q (r ++ [m])).flatten.Perm (R.flatten ++ [m])
  | [], q, r, m, h => by simp at h
  | s :: R, 0, r, m, h => by
    cases h
    show (s ++ [m] ++ R.flatten).Perm (s ++ R.flatten ++ [m])
    rw [List.append_assoc, List.append_assoc]
    exact List.Perm.append_left s List.perm_append_comm
  | s :: R, q + 1, r, m, h => by
    show (s ++ (R.set q (r ++ [m])).flatten).Perm (s ++ R.flatten ++ [m])
    rw [List.append_assoc]
    exact List.Perm.append_left s (flat_put R q r m h)
theorem row_leF {α : Type} : ∀ {R : List (List α)} {q : Nat} {r : List α}, R[q]? = some r → r.length ≤ R.flatten.length
  | [], q, r, h => by simp at h
  | s :: R, q, r, h => by
    rw [List.flatten_cons, List.length_append]
    cases q with
    | zero => cases h; omega
    | succ q =>
      have := row_leF (R := R) (q := q) h
      omega
theorem perm_erase {α : Type} : ∀ (l : List α) (i : Nat) (x : α), l[i]? = some x → l.Perm (x :: l.eraseIdx i)
  | [], i, x, h => by simp at h
  | a :: l, 0, x, h => by
    cases h
    exact List.Perm.refl _
  | a :: l, i + 1, x, h => by
    show (a :: l).Perm (x :: a :: l.eraseIdx i)
    exact (List.Perm.cons a (perm_erase l i x h)).trans (List.Perm.swap x a _)
theorem Reps.erase {H : Hp} : ∀ {ds : List D} {vs : List V} {i : Nat}, Reps H ds vs → Reps H (ds.eraseIdx i) (vs.eraseIdx i)
  | [], vs, i, h => by
    simp only [Reps] at h
    subst h
    simp only [List.eraseIdx_nil, Reps]
  | d :: ds, vs, i, h => by
    obtain ⟨v, r, rfl, hv, hr⟩ := h
    cases i with
    | zero => exact hr
    | succ i => exact ⟨v, r.eraseIdx i, rfl, hv, Reps.erase hr⟩
theorem box_app (l : List Itm) (i : Itm) : (l ++ [i]).filterMap boxOf = l.filterMap boxOf ++ (match boxOf i with | none => [] | some b => [b]) := by
  rw [List.filterMap_append]
  congr 1
  cases i <;> rfl
end Bk

set_option Elab.async false
set_option linter.all false
set_option maxRecDepth 100000
set_option maxHeartbeats 4000000
/-! Bk40: the later laws' trees: drawn, their sizes. -/
namespace Bk
open PySem PySem.Spec PyProof.Rows L2
structure TreeS (p R Kd : Addr) (w : Wd) (H H1 : Hp) (t : Tr) (rvs : List V) : Prop where
  bx0 : Box H p
  bt : But p H H1
  bx : Box H1 p
  hR : H R = none
  hK : H Kd = none
  RK : R ≠ Kd
  atR : H1 R = some (.lst rvs)
  atK : H1 Kd = some (.lst ((kindsT w t).map V.int))
  reps : Reps H1 (t.map rowD) rvs
  go : goTr w [] t = true
  row : ∀ r ∈ t, TextOk r.1 ∧ r.2.length ≤ 2
section
variable {p R Kd : Addr} {w : Wd} {H H1 H2 : Hp} {t : Tr} {rvs : List V}
theorem TreeS.np (s : TreeS p R Kd w H H1 t rvs) {a : Addr} (ha : H a = none) : a ≠ p := s.bx0.ne ha
theorem TreeS.free (s : TreeS p R Kd w H H1 t rvs) {a : Addr} (ha : H1 a = none) : H a = none := by
  cases e : H a with
  | none => rfl
  | some o =>
    by_cases z : a = p
    · subst z
      obtain ⟨_, _, _, q⟩ := s.bx
      rw [ha] at q
      cases q
    · rw [s.bt _ _ z e] at ha
      cases ha
theorem TreeS.but (s : TreeS p R Kd w H H1 t rvs) (b : But p H1 H2) (hb : Box H2 p) : TreeS p R Kd w H H2 t rvs :=
  { s with bt := s.bt.trans b, bx := hb, atR := b _ _ (s.np s.hR) s.atR, atK := b _ _ (s.np s.hK) s.atK, reps := s.reps.tk (s.bx.tk b) (rows_hard t) }
theorem TreeS.ex (s : TreeS p R Kd w H H1 t rvs) (e : Ex H1 H2) : TreeS p R Kd w H H2 t rvs := s.but (e.but p) (s.bx.ex e)
theorem TreeS.len (s : TreeS p R Kd w H H1 t rvs) : rvs.length = t.length := by rw [s.reps.len, List.length_map]
theorem TreeS.app (s : TreeS p R Kd w H H1 t rvs) {r : Str × List Int} {v : V} (rv : Rep H1 (rowD r) v) (hs : stands w (kindsT w t) r = true) (ht : TextOk r.1) (hl : r.2.length ≤ 2) :
    TreeS p R Kd w H (upd (upd H1 R (.lst (rvs ++ [v]))) Kd (.lst ((kindsT w t).map V.int ++ [.int (kindAt w r.1)]))) (t ++ [r]) (rvs ++ [v]) := by
  have k1 : Tk H1 (upd H1 R (.lst (rvs ++ [v]))) := tk_put s.atR
  have aK : (upd H1 R (.lst (rvs ++ [v]))) Kd = some (.lst ((kindsT w t).map V.int)) := by rw [upd_ne (Ne.symm s.RK)]; exact s.atK
  have k2 : Tk _ (upd (upd H1 R (.lst (rvs ++ [v]))) Kd (.lst ((kindsT w t).map V.int ++ [.int (kindAt w r.1)]))) := tk_put aK
  have k := k1.trans k2
  refine ⟨s.bx0, (s.bt.at_new s.hR).at_new s.hK, (s.bx.at_upd (s.np s.hR)).at_upd (s.np s.hK), s.hR, s.hK, s.RK, by rw [upd_ne s.RK, upd_same], ?_, ?_, by rw [goTr_app, s.go, List.nil_append, hs]; rfl, fun q hq => ?_⟩
  · rw [upd_same]
    unfold kindsT
    rw [List.map_append, List.map_append]
    rfl
  · rw [List.map_append]
    exact (s.reps.tk k (rows_hard t)).append (by simp only [List.map, Reps]; exact ⟨v, [], rfl, rv.tk k (row_hard r), rfl⟩)
  · rcases List.mem_append.1 hq with hq | hq
    · exact s.row q hq
    · rw [List.mem_singleton.1 hq]
      exact ⟨ht, hl⟩
end
def spTreeL : Sp := fun vs H Q _ => ∃ (p : Addr) (w : Wd) (v : V) (most : Nat), vs = [.ref p, v, .int (most : Nat)] ∧ Box H p ∧ Rep H (woodD w) v ∧ WoodOk w ∧ 1 ≤ most ∧ most ≤ 200 ∧
  ∀ (t : Tr) (u : V) (H' : Hp), t.length ≤ most → goTr w [] t = true → (∀ r ∈ t, TextOk r.1 ∧ r.2.length ≤ 2) → Rep H' (treeD t) u → But p H H' → Box H' p → Q u H'
theorem all_ints {ds ks : List Int} (h : (ds.map fun d => decide (d ∈ ks)).all id = true) : ∀ d ∈ ds, d ∈ ks := fun d hd => by
  have := List.all_eq_true.1 h _ (List.mem_map.2 ⟨d, hd, rfl⟩)
  simpa using this
theorem all_ints_not {ds ks : List Int} (h : (ds.map fun d => decide (d ∈ ks)).all id = false) : ¬ ∀ d ∈ ds, d ∈ ks := fun z => by
  have : (ds.map fun d => decide (d ∈ ks)).all id = true := List.all_eq_true.2 fun b hb => by
    obtain ⟨d, hd, rfl⟩ := List.mem_map.1 hb
    simpa using z d hd
  rw [this] at h
  cases h
theorem g_inL1 {K : PySem.W.Frag} {H : Hp} {Q : VK} {l : Addr} {n : Int} {ks : List Int} (hl : H l = some (.lst (ks.map V.int))) (h : Q (.bl (decide (n ∈ ks))) H) : uIn K false (.int n) (.ref l) H Q := ⟨_, .inl (sqL hl), rfl, flat_ints ks, by rw [inV_ints]; exact h⟩
end Bk

set_option Elab.async false
set_option linter.all false
set_option maxRecDepth 100000
set_option maxHeartbeats 4000000
/-! Bk41: values of a tree's rows; the plain tree, step by step. -/
namespace Bk
open PySem PySem.Spec PyProof.Rows L2
/-! ### values of the rows -/
section
variable {β : Type}
def foldV (d : β) (f : Str → List β → β) (t : Tr) : List β := t.foldl (fun acc row => acc ++ [f row.1 (row.2.map fun n => acc.getD n.toNat d)]) []
theorem fold_len {γ : Type} (g : List β → γ → β) : ∀ (l : List γ) (acc : List β), (l.foldl (fun acc row => acc ++ [g acc row]) acc).length = acc.length + l.length
  | [], acc => rfl
  | r :: l, acc => by
    show (l.foldl _ (acc ++ [g acc r])).length = _
    rw [fold_len g l, List.length_append, List.length_cons, List.length_cons, List.length_nil]
    omega
theorem fold_pre {γ : Type} (g : List β → γ → β) : ∀ (l : List γ) (acc : List β), (l.foldl (fun acc row => acc ++ [g acc row]) acc).take acc.length = acc
  | [], acc => List.take_length
  | r :: l, acc => by
    show (l.foldl _ (acc ++ [g acc r])).take acc.length = acc
    have ih := congrArg (List.take acc.length) (fold_pre g l (acc ++ [g acc r]))
    rw [List.take_take, List.length_append, Nat.min_eq_left (Nat.le_add_right _ _)] at ih
    rw [ih, List.take_append_of_le_length (Nat.le_refl _), List.take_length]
variable {d : β} {f : Str → List β → β} {t : Tr}
theorem foldV_snoc {r : Str × List Int} : foldV d f (t ++ [r]) = foldV d f t ++ [f r.1 (r.2.map fun n => (foldV d f t).getD n.toNat d)] := by
  unfold foldV
  rw [List.foldl_append]
  rfl
theorem foldV_len : (foldV d f t).length = t.length := by
  exact (fold_len (fun (acc : List β) (row : Str × List Int) => f row.1 (row.2.map fun n => acc.getD n.toNat d)) t []).trans (by rw [List.length_nil, Nat.zero_add])
theorem foldV_pre (i : Nat) (h : i ≤ t.length) : (foldV d f t).take i = foldV d f (t.take i) := by
  have e : foldV d f t = (t.drop i).foldl (fun acc row => acc ++ [f row.1 (row.2.map fun n => acc.getD n.toNat d)]) (foldV d f (t.take i)) := by
    show t.foldl _ [] = _
    have z := congrArg (List.foldl (fun acc row => acc ++ [f row.1 (row.2.map fun n => acc.getD n.toNat d)]) []) (List.take_append_drop i t).symm
    rw [List.foldl_append] at z
    exact z
  have l : (foldV d f (t.take i)).length = i := by rw [foldV_len, List.length_take]; omega
  have p := fold_pre (fun (acc : List β) (row : Str × List Int) => f row.1 (row.2.map fun n => acc.getD n.toNat d)) (t.drop i) (foldV d f (t.take i))
  rw [l, ← e] at p
  exact p
/-- each row's numbers are of rows ahead of it -/
def TrIdx (t : Tr) : Prop := ∀ (i : Nat) (r : Str × List Int), t[i]? = some r → r.2.length ≤ 2 ∧ ∀ n ∈ r.2, 0 ≤ n ∧ n < (i : Int)
theorem foldV_at (ok : TrIdx t) {i : Nat} {r : Str × List Int} (h : t[i]? = some r) : (foldV d f t)[i]? = some (f r.1 (r.2.map fun n => (foldV d f t).getD n.toNat d)) := by
  have li := (List.getElem?_eq_some_iff.1 h).1
  have p := foldV_pre (d := d) (f := f) (i + 1) (Nat.succ_le_of_lt li)
  rw [take_at h, foldV_snoc] at p
  have l : (foldV d f (t.take i)).length = i := by rw [foldV_len, List.length_take]; omega
  have q : (foldV d f t)[i]? = ((foldV d f t).take (i + 1))[i]? := by rw [List.getElem?_take, if_pos (Nat.lt_succ_self i)]
  rw [q, p, List.getElem?_append_right (by omega), l, Nat.sub_self]
  show some _ = some _
  congr 2
  refine List.map_congr_left fun n hn => ?_
  have := (ok i r h).2 n hn
  rw [List.getD_eq_getElem?_getD, List.getD_eq_getElem?_getD, ← foldV_pre i (Nat.le_of_lt li), List.getElem?_take, if_pos (by omega)]
theorem foldV_app (ok : TrIdx t) (r : Str × List Int) {i : Nat} (h : i < t.length) : (foldV d f (t ++ [r]))[i]? = (foldV d f t)[i]? := by
  rw [foldV_snoc, List.getElem?_append_left (by rw [foldV_len]; exact h)]
end
theorem TrIdx.take {t : Tr} (ok : TrIdx t) (i : Nat) : TrIdx (t.take i) := fun j r h => by
  rw [List.getElem?_take] at h
  split at h
  · exact ok j r h
  · cases h
theorem TrIdx.snoc {t : Tr} (ok : TrIdx t) {r : Str × List Int} (h2 : r.2.length ≤ 2) (h : ∀ n ∈ r.2, 0 ≤ n ∧ n < (t.length : Int)) : TrIdx (t ++ [r]) := fun j q hq => by
  by_cases c : j < t.length
  · rw [List.getElem?_append_left c] at hq
    exact ok j q hq
  · rw [List.getElem?_append_right (by omega)] at hq
    have ej : j = t.length := by
      have := (List.getElem?_eq_some_iff.1 hq).1
      rw [List.length_singleton] at this
      omega
    subst ej
    rw [Nat.sub_self] at hq
    cases hq
    exact ⟨h2, h⟩
/-! ### sizes -/
def szf : Str → List Int → Int := fun _ ps => 1 + ps.sum
def szT (t : Tr) (a : Nat) : Int := (foldV 0 szf t).getD a 0
theorem szT_at {t : Tr} (ok : TrIdx t) {a : Nat} {r : Str × List Int} (h : t[a]? = some r) : szT t a = 1 + (r.2.map fun n => szT t n.toNat).sum := by
  unfold szT
  rw [List.getD_eq_getElem?_getD, foldV_at ok h]
  rfl
theorem sz_pos {t : Tr} (ok : TrIdx t) : ∀ (k a : Nat), a < k → a < t.length → 1 ≤ szT t a
  | 0, a, h, _ => absurd h (Nat.not_lt_zero _)
  | k + 1, a, h, hl => by
    have e := List.getElem?_eq_getElem hl
    rw [szT_at ok e]
    have := sum_nonneg (l := t[a].2.map fun n => szT t n.toNat) fun x hx => by
      obtain ⟨n, hn, rfl⟩ := List.mem_map.1 hx
      have z := (ok a _ e).2 n hn
      have := sz_pos ok k n.toNat (by omega) (by omega)
      omega
    omega
theorem sz_pos' {t : Tr} (ok : TrIdx t) {a : Nat} (h : a < t.length) : 1 ≤ szT t a := sz_pos ok (a + 1) a (Nat.lt_succ_self a) h
theorem mem_le_sumI : ∀ {l : List Int} {x : Int}, (∀ y ∈ l, 0 ≤ y) → x ∈ l → x ≤ l.sum
  | [], x, _, h => nomatch h
  | a :: l, x, hl, h => by
    rw [List.sum_cons]
    have a0 := hl a List.mem_cons_self
    have s0 := sum_nonneg (l := l) fun y hy => hl y (List.mem_cons_of_mem _ hy)
    rcases List.mem_cons.1 h with rfl | h
    · omega
    · have := mem_le_sumI (l := l) (fun y hy => hl y (List.mem_cons_of_mem _ hy)) h
      omega
theorem sz_part {t : Tr} (ok : TrIdx t) {a : Nat} {r : Str × List Int} (h : t[a]? = some r) {n : Int} (hn : n ∈ r.2) : szT t n.toNat < szT t a := by
  rw [szT_at ok h]
  have la := (List.getElem?_eq_some_iff.1 h).1
  have := mem_le_sumI (l := r.2.map fun n => szT t n.toNat) (x := szT t n.toNat) (fun y hy => by
    obtain ⟨m, hm, rfl⟩ := List.mem_map.1 hy
    have z := (ok a _ h).2 m hm
    have := sz_pos' ok (a := m.toNat) (by omega)
    omega) (List.mem_map.2 ⟨n, hn, rfl⟩)
  omega
/-! ### the plain tree -/
structure PlSt where
  left : List (Nat × Bool)
  rows : Tr
  own : List (Nat × Nat)
def ownAt (own : List (Nat × Nat)) (n : Nat) : Option Nat := (own.find? fun p => decide (p.1 = n)).map (·.2)
def rowAt (t : Tr) (a : Nat) : Str × List Int := t.getD a ("", [])
def markOf (t : Tr) (own : List (Nat × Nat)) (a : Nat) : Mark := ((rowAt t a).1, (rowAt t a).2.map fun n => (((ownAt own n.toNat).getD 0 : Nat) : Int))
def markIx (rows : Tr) (m : Mark) : Option Nat := rows.findIdx? fun r => decide (r = m)
def stepP (t : Tr) : PlSt → PlSt
  | ⟨[], rows, own⟩ => ⟨[], rows, own⟩
  | ⟨(a, b) :: left, rows, own⟩ =>
    if (ownAt own a).isSome = true then ⟨left, rows, own⟩
    else if b = true then
      match markIx rows (markOf t own a) with
      | some k => ⟨left, rows, own ++ [(a, k)]⟩
      | none => ⟨left, rows ++ [markOf t own a], own ++ [(a, rows.length)]⟩
    else ⟨(rowAt t a).2.map (fun n => (n.toNat, false)) ++ (a, true) :: left, rows, own⟩
def startP (t : Tr) : PlSt := ⟨[(t.length - 1, false)], [], []⟩
def runP (t : Tr) : Nat → PlSt
  | 0 => startP t
  | k + 1 => stepP t (runP t k)
theorem ownAt_mem {own : List (Nat × Nat)} {n k : Nat} (h : ownAt own n = some k) : (n, k) ∈ own := by
  unfold ownAt at h
  cases c : own.find? fun p => decide (p.1 = n) with
  | none => rw [c] at h; cases h
  | some p =>
    rw [c] at h
    cases h
    have := List.find?_some c
    have e : p.1 = n := of_decide_eq_true this
    rw [← e]
    exact List.mem_of_find?_eq_some c
theorem ownAt_app {own : List (Nat × Nat)} {a k n : Nat} : ownAt (own ++ [(a, k)]) n = (ownAt own n).or (if a = n then some k else none) := by
  unfold ownAt
  rw [List.find?_append]
  cases own.find? fun p => decide (p.1 = n) with
  | some p => rfl
  | none =>
    by_cases c : a = n
    · simp [List.find?_cons, c]
    · simp [List.find?_cons, c]
theorem ownAt_none {own : List (Nat × Nat)} {n : Nat} (h : ownAt own n = none) : n ∉ own.map (·.1) := fun hm => by
  obtain ⟨p, hp, rfl⟩ := List.mem_map.1 hm
  unfold ownAt at h
  rw [Option.map_eq_none_iff, List.find?_eq_none] at h
  exact h p hp (decide_eq_true rfl)
theorem rowAt_eq {t : Tr} {a : Nat} {r : Str × List Int} (h : t[a]? = some r) : rowAt t a = r := by
  unfold rowAt
  rw [List.getD_eq_getElem?_getD, h]
  rfl
theorem markIx_some {rows : Tr} {m : Mark} {k : Nat} (h : markIx rows m = some k) : rows[k]? = some m := by
  unfold markIx at h
  obtain ⟨h1, h2, _⟩ := List.findIdx?_eq_some_iff_getElem.1 h
  rw [List.getElem?_eq_getElem h1, of_decide_eq_true h2]
theorem markIx_none {rows : Tr} {m : Mark} (h : markIx rows m = none) : m ∉ rows := fun hm => by
  unfold markIx at h
  rw [List.findIdx?_eq_none_iff] at h
  have := h m hm
  simp at this
structure PInv (t : Tr) (s : PlSt) : Prop where
  stk : ∀ p ∈ s.left, p.1 < t.length
  ord : s.left.Pairwise fun p q => q.2 = true → p.1 < q.1
  part : ∀ (above below : List (Nat × Bool)) (a : Nat), s.left = above ++ (a, true) :: below → ∀ n ∈ (rowAt t a).2, (ownAt s.own n.toNat).isSome = true ∨ ∃ b, (n.toNat, b) ∈ above
  ownl : ∀ p ∈ s.own, p.1 < t.length ∧ p.2 < s.rows.length
  ownd : (s.own.map (·.1)).Nodup
  few : s.rows.length ≤ s.own.length
  nd : s.rows.Nodup
  idx : TrIdx s.rows
  name : ∀ p ∈ s.own, (rowAt s.rows p.2).1 = (rowAt t p.1).1
  same : ∀ p ∈ s.own, ∀ (β : Type) (d : β) (f : Str → List β → β), (foldV d f s.rows)[p.2]? = (foldV d f t)[p.1]?
  rowl : ∀ (k : Nat) (r : Str × List Int), s.rows[k]? = some r → ∃ a, a < t.length ∧ r.1 = (rowAt t a).1 ∧ r.2.length = (rowAt t a).2.length ∧ ∀ (j : Nat) (n m : Int), r.2[j]? = some n → (rowAt t a).2[j]? = some m → 0 ≤ m ∧ m.toNat < a ∧ 0 ≤ n ∧ n.toNat < k ∧ (rowAt s.rows n.toNat).1 = (rowAt t m.toNat).1
  base : (∃ pre b, s.left = pre ++ [(t.length - 1, b)] ∧ (∀ p ∈ pre, szT t p.1 < szT t (t.length - 1)) ∧ (∀ k, k < s.rows.length → szT s.rows k < szT t (t.length - 1)) ∧ ownAt s.own (t.length - 1) = none) ∨ (s.left = [] ∧ ∃ k, ownAt s.own (t.length - 1) = some k ∧ k + 1 = s.rows.length)
def cntP (t : Tr) (left : List (Nat × Bool)) (own : List (Nat × Nat)) : Nat := (List.range t.length).countP fun a => (ownAt own a).isNone && !decide ((a, true) ∈ left)
def measP (t : Tr) (s : PlSt) : Nat := s.left.length + 4 * cntP t s.left s.own
theorem PInv.start {t : Tr} (h : 0 < t.length) : PInv t (startP t) := by
  refine ⟨fun p hp => ?_, List.pairwise_singleton _ _, fun above below a e => ?_, fun p z => (nomatch z), List.nodup_nil, Nat.le_refl _, List.nodup_nil, fun i r z => by simp [startP] at z, fun p z => (nomatch z), fun p z => (nomatch z), fun k r z => by simp [startP] at z, .inl ⟨[], false, rfl, fun p z => (nomatch z), fun k z => absurd z (Nat.not_lt_zero _), rfl⟩⟩
  · rw [List.mem_singleton.1 hp]
    show t.length - 1 < t.length
    omega
  · exfalso
    have : (a, true) ∈ (startP t).left := by rw [e]; exact List.mem_append_right _ List.mem_cons_self
    have z := List.mem_singleton.1 this
    cases z
theorem countP_lt {α : Type} {p q : α → Bool} : ∀ {l : List α} {a : α}, (∀ x, q x = true → p x = true) → a ∈ l → p a = true → q a = false → l.countP q < l.countP p
  | [], a, _, h, _, _ => nomatch h
  | x :: l, a, hx, h, h1, h2 => by
    rw [List.countP_cons, List.countP_cons]
    have le : l.countP q ≤ l.countP p := List.countP_mono_left fun y _ => hx y
    rcases List.mem_cons.1 h with rfl | h
    · rw [if_pos h1, if_neg (by rw [h2]; exact Bool.false_ne_true)]
      omega
    · have := countP_lt (l := l) hx h h1 h2
      by_cases c : q x = true
      · rw [if_pos c, if_pos (hx x c)]
        omega
      · rw [if_neg c]
        omega
theorem getD_snoc {α : Type} {l : List α} {x d : α} {k : Nat} (h : k < l.length) : (l ++ [x]).getD k d = l.getD k d := by
  rw [List.getD_eq_getElem?_getD, List.getD_eq_getElem?_getD, List.getElem?_append_left h]
theorem getD_last {α : Type} {l : List α} {x d : α} : (l ++ [x]).getD l.length d = x := by
  rw [List.getD_eq_getElem?_getD, List.getElem?_append_right (Nat.le_refl _), Nat.sub_self]
  rfl
theorem cons_app {α : Type} {x y : α} {l pre : List α} (h : x :: l = pre ++ [y]) : (pre = [] ∧ x = y ∧ l = []) ∨ ∃ pre', pre = x :: pre' ∧ l = pre' ++ [y] := by
  cases pre with
  | nil =>
    rw [List.nil_append] at h
    injection h with h1 h2
    exact .inl ⟨rfl, h1, h2⟩
  | cons z pre =>
    rw [List.cons_append] at h
    injection h with h1 h2
    exact .inr ⟨pre, by rw [h1], h2⟩
theorem meas_le {t : Tr} {left left' : List (Nat × Bool)} {rows rows' : Tr} {own own' : List (Nat × Nat)} {c : Nat × Bool} (hl : left = c :: left') (h : ∀ x, ownAt own' x = none → (x, true) ∉ left' → ownAt own x = none ∧ (x, true) ∉ left) : measP t ⟨left', rows', own'⟩ < measP t ⟨left, rows, own⟩ := by
  have : cntP t left' own' ≤ cntP t left own := List.countP_mono_left fun x _ hx => by
    simp only [Bool.and_eq_true, Option.isNone_iff_eq_none, Bool.not_eq_true', decide_eq_false_iff_not] at hx ⊢
    exact h x hx.1 hx.2
  show left'.length + 4 * cntP t left' own' < left.length + 4 * cntP t left own
  have e : left.length = left'.length + 1 := by rw [hl, List.length_cons]
  omega
theorem PInv.step {t : Tr} (ok : TrIdx t) {s : PlSt} (h : PInv t s) (hl : s.left ≠ []) : PInv t (stepP t s) ∧ measP t (stepP t s) < measP t s := by
  obtain ⟨left0, rows, own⟩ := s
  cases left0 with
  | nil => exact absurd rfl hl
  | cons p left =>
  obtain ⟨a, b⟩ := p
  have la : a < t.length := h.stk (a, b) List.mem_cons_self
  have er0 := List.getElem?_eq_getElem la
  obtain ⟨r, er⟩ : ∃ r, t[a]? = some r := ⟨_, er0⟩
  clear er0
  have ra := rowAt_eq er
  have rix := ok a r er
  have hbase := h.base.resolve_right fun z => nomatch z.1
  obtain ⟨pre, b', ebase, hpre, hsz, hroot⟩ := hbase
  replace ebase : (a, b) :: left = pre ++ [(t.length - 1, b')] := ebase
  replace hroot : ownAt own (t.length - 1) = none := hroot
  have ordt := List.pairwise_cons.1 h.ord
  by_cases c1 : (ownAt own a).isSome = true
  · -- it is there
    have es : stepP t ⟨(a, b) :: left, rows, own⟩ = ⟨left, rows, own⟩ := by
      show (if (ownAt own a).isSome = true then _ else _) = _
      rw [if_pos c1]
    rw [es]
    refine ⟨⟨fun p hp => h.stk p (List.mem_cons_of_mem _ hp), ordt.2, fun above below x e n hn => ?_, h.ownl, h.ownd, h.few, h.nd, h.idx, h.name, h.same, h.rowl, ?_⟩, meas_le rfl fun x h1 h2 => ⟨h1, fun z => ?_⟩⟩
    · replace e : left = above ++ (x, true) :: below := e
      rcases h.part ((a, b) :: above) below x (by show (a, b) :: left = _; rw [e]; rfl) n hn with z | ⟨b2, z⟩
      · exact .inl z
      · rcases List.mem_cons.1 z with z | z
        · have : n.toNat = a := congrArg Prod.fst z
          exact .inl (by rw [this]; exact c1)
        · exact .inr ⟨b2, z⟩
    · rcases cons_app ebase with ⟨_, e, _⟩ | ⟨pre', rfl, e⟩
      · have : a = t.length - 1 := congrArg Prod.fst e
        rw [this, hroot] at c1
        cases c1
      · exact .inl ⟨pre', b', e, fun p hp => hpre p (List.mem_cons_of_mem _ hp), hsz, hroot⟩
    · rcases List.mem_cons.1 z with z | z
      · have : x = a := congrArg Prod.fst z
        rw [this] at h1
        rw [h1] at c1
        cases c1
      · exact h2 z
  have own0 : ownAt own a = none := by
    cases c : ownAt own a with
    | none => rfl
    | some k => rw [c] at c1; exact absurd rfl c1
  cases b with
  | false =>
    -- its parts first
    have es : stepP t ⟨(a, false) :: left, rows, own⟩ = ⟨r.2.map (fun n => (n.toNat, false)) ++ (a, true) :: left, rows, own⟩ := by
      show (if (ownAt own a).isSome = true then _ else if false = true then _ else _) = _
      rw [if_neg c1, if_neg Bool.false_ne_true, ra]
    rw [es]
    have pin : ∀ p ∈ r.2.map (fun n : Int => (n.toNat, false)), p.2 = false ∧ p.1 < a ∧ szT t p.1 < szT t a := fun p hp => by
      obtain ⟨n, hn, rfl⟩ := List.mem_map.1 hp
      have := rix.2 n hn
      exact ⟨rfl, show n.toNat < a by omega, sz_part ok er hn⟩
    refine ⟨⟨fun p hp => ?_, ?_, fun above below x e n hn => ?_, h.ownl, h.ownd, h.few, h.nd, h.idx, h.name, h.same, h.rowl, ?_⟩, ?_⟩
    · rcases List.mem_append.1 hp with hp | hp
      · have := (pin p hp).2.1
        omega
      · rcases List.mem_cons.1 hp with rfl | hp
        · exact la
        · exact h.stk p (List.mem_cons_of_mem _ hp)
    · refine List.pairwise_append.2 ⟨?_, List.pairwise_cons.2 ⟨fun q hq hq2 => ordt.1 q hq hq2, ordt.2⟩, fun p hp q hq hq2 => ?_⟩
      · refine List.Pairwise.imp_of_mem (R := fun _ _ => True) (fun {p q} _ hq _ hq2 => ?_) (List.pairwise_of_forall_mem_list fun _ _ _ _ => trivial)
        rw [(pin q hq).1] at hq2
        cases hq2
      · have := (pin p hp).2.1
        rcases List.mem_cons.1 hq with rfl | hq
        · exact this
        · have := ordt.1 q hq hq2
          replace this : a < q.1 := this
          omega
    · replace e : r.2.map (fun n => (n.toNat, false)) ++ (a, true) :: left = above ++ (x, true) :: below := e
      have first : ∀ c' : List (Nat × Bool), above = r.2.map (fun n => (n.toNat, false)) ++ c' → (a, true) :: left = c' ++ (x, true) :: below → (ownAt own n.toNat).isSome = true ∨ ∃ b, (n.toNat, b) ∈ above := by
        intro c' ea e2
        cases c' with
        | nil =>
          rw [List.nil_append] at e2
          injection e2 with e2 _
          have : a = x := congrArg Prod.fst e2
          subst this
          rw [ra] at hn
          exact .inr ⟨false, by rw [ea, List.append_nil]; exact List.mem_map.2 ⟨n, hn, rfl⟩⟩
        | cons q c' =>
          rw [List.cons_append] at e2
          injection e2 with e2 e3
          rcases h.part ((a, false) :: c') below x (by show (a, false) :: left = _; rw [e3]; rfl) n hn with z | ⟨b2, z⟩
          · exact .inl z
          · rcases List.mem_cons.1 z with z | z
            · have : n.toNat = a := congrArg Prod.fst z
              exact .inr ⟨true, by rw [ea, this, ← e2]; exact List.mem_append_right _ List.mem_cons_self⟩
            · exact .inr ⟨b2, by rw [ea]; exact List.mem_append_right _ (List.mem_cons_of_mem _ z)⟩
      rcases List.append_eq_append_iff.1 e with ⟨c', e1, e2⟩ | ⟨c', e1, e2⟩
      · exact first c' e1 e2
      · cases c' with
        | nil =>
          rw [List.append_nil] at e1
          rw [List.nil_append] at e2
          exact first [] (by rw [e1, List.append_nil]) (by rw [List.nil_append]; exact e2.symm)
        | cons q c' =>
          rw [List.cons_append] at e2
          injection e2 with e2 _
          have := (pin q (by rw [e1]; exact List.mem_append_right _ List.mem_cons_self)).1
          rw [← e2] at this
          cases this
    · rcases cons_app ebase with ⟨_, e, e2⟩ | ⟨pre', rfl, e⟩
      · have ea : a = t.length - 1 := congrArg Prod.fst e
        refine .inl ⟨r.2.map (fun n => (n.toNat, false)), true, ?_, fun p hp => ?_, hsz, hroot⟩
        · show _ ++ (a, true) :: left = _
          rw [e2, ea]
        · rw [← ea]
          exact (pin p hp).2.2
      · have sa := hpre (a, false) List.mem_cons_self
        refine .inl ⟨r.2.map (fun n => (n.toNat, false)) ++ (a, true) :: pre', b', ?_, fun p hp => ?_, hsz, hroot⟩
        · show _ ++ (a, true) :: left = _
          rw [e, List.append_assoc]
          rfl
        · rcases List.mem_append.1 hp with hp | hp
          · exact Int.lt_trans (pin p hp).2.2 sa
          · rcases List.mem_cons.1 hp with rfl | hp
            · exact sa
            · exact hpre p (List.mem_cons_of_mem _ hp)
    · have lp : (r.2.map (fun n : Int => (n.toNat, false))).length ≤ 2 := by rw [List.length_map]; exact rix.1
      have : cntP t (r.2.map (fun n : Int => (n.toNat, false)) ++ (a, true) :: left) own < cntP t ((a, false) :: left) own := countP_lt (l := List.range t.length) (a := a) (p := fun x => (ownAt own x).isNone && !decide ((x, true) ∈ (a, false) :: left)) (q := fun x => (ownAt own x).isNone && !decide ((x, true) ∈ r.2.map (fun n : Int => (n.toNat, false)) ++ (a, true) :: left)) (fun x hx => by
        simp only [Bool.and_eq_true, Option.isNone_iff_eq_none, Bool.not_eq_true', decide_eq_false_iff_not] at hx ⊢
        refine ⟨hx.1, fun z => hx.2 (List.mem_append_right _ (List.mem_cons_of_mem _ ?_))⟩
        rcases List.mem_cons.1 z with z | z
        · cases z
        · exact z) (List.mem_range.2 la) (by
        simp only [Bool.and_eq_true, Option.isNone_iff_eq_none, Bool.not_eq_true', decide_eq_false_iff_not]
        refine ⟨own0, fun z => ?_⟩
        rcases List.mem_cons.1 z with z | z
        · cases z
        · exact Nat.lt_irrefl _ (ordt.1 (a, true) z rfl)) (by
        have : decide ((a, true) ∈ r.2.map (fun n : Int => (n.toNat, false)) ++ (a, true) :: left) = true := decide_eq_true (List.mem_append_right _ List.mem_cons_self)
        simp only [this, Bool.not_true, Bool.and_false])
      show (r.2.map (fun n : Int => (n.toNat, false)) ++ (a, true) :: left).length + 4 * cntP t (r.2.map (fun n : Int => (n.toNat, false)) ++ (a, true) :: left) own < ((a, false) :: left).length + 4 * cntP t ((a, false) :: left) own
      rw [List.length_append, List.length_cons, List.length_cons]
      omega
  | true =>
    have hparts : ∀ n ∈ r.2, ∃ k, ownAt own n.toNat = some k ∧ (n.toNat, k) ∈ own ∧ k < rows.length := fun n hn => by
      rcases h.part [] left a rfl n (by rw [ra]; exact hn) with z | ⟨_, z⟩
      · obtain ⟨k, hk⟩ := Option.isSome_iff_exists.1 z
        exact ⟨k, hk, ownAt_mem hk, (h.ownl _ (ownAt_mem hk)).2⟩
      · cases z
    obtain ⟨m, em⟩ : ∃ m, m = markOf t own a := ⟨_, rfl⟩
    have em2 : m = (r.1, r.2.map fun n => (((ownAt own n.toNat).getD 0 : Nat) : Int)) := by rw [em]; unfold markOf; rw [ra]
    have hval : ∀ (β : Type) (d : β) (f : Str → List β → β), f m.1 (m.2.map fun n => (foldV d f rows).getD n.toNat d) = f r.1 (r.2.map fun n => (foldV d f t).getD n.toNat d) := fun β d f => by
      rw [em2]
      show f r.1 ((r.2.map fun n => (((ownAt own n.toNat).getD 0 : Nat) : Int)).map fun n => (foldV d f rows).getD n.toNat d) = _
      rw [List.map_map]
      congr 1
      refine List.map_congr_left fun n hn => ?_
      obtain ⟨k, hk, hm, _⟩ := hparts n hn
      show (foldV d f rows).getD (((ownAt own n.toNat).getD 0 : Nat) : Int).toNat d = _
      rw [hk, Option.getD_some, Int.toNat_natCast, List.getD_eq_getElem?_getD, List.getD_eq_getElem?_getD, h.same _ hm β d f]
    have mlen : m.2.length ≤ 2 := by rw [em2]; show (r.2.map _).length ≤ 2; rw [List.length_map]; exact rix.1
    have mrow : ∀ (j : Nat) (n q : Int), m.2[j]? = some n → r.2[j]? = some q → 0 ≤ q ∧ q.toNat < a ∧ 0 ≤ n ∧ n.toNat < rows.length ∧ (rowAt rows n.toNat).1 = (rowAt t q.toNat).1 := fun j n q hn hq => by
      rw [em2] at hn
      rw [List.getElem?_map, hq] at hn
      cases hn
      obtain ⟨k, hk, hm, hkl⟩ := hparts q (List.mem_of_getElem? hq)
      have := rix.2 q (List.mem_of_getElem? hq)
      show 0 ≤ q ∧ q.toNat < a ∧ (0 : Int) ≤ (((ownAt own q.toNat).getD 0 : Nat) : Int) ∧ (((ownAt own q.toNat).getD 0 : Nat) : Int).toNat < rows.length ∧ (rowAt rows (((ownAt own q.toNat).getD 0 : Nat) : Int).toNat).1 = (rowAt t q.toNat).1
      rw [hk, Option.getD_some, Int.toNat_natCast]
      exact ⟨this.1, by omega, Int.natCast_nonneg _, hkl, h.name _ hm⟩
    have mnum : ∀ n ∈ m.2, 0 ≤ n ∧ n < (rows.length : Int) := fun n hn => by
      obtain ⟨j, hj⟩ := List.mem_iff_getElem?.1 hn
      have lj := (List.getElem?_eq_some_iff.1 hj).1
      have l2 : j < r.2.length := by rw [em2] at lj; rw [List.length_map] at lj; exact lj
      have := mrow j n _ hj (List.getElem?_eq_getElem l2)
      omega
    have vt : ∀ (β : Type) (d : β) (f : Str → List β → β), (foldV d f t)[a]? = some (f m.1 (m.2.map fun n => (foldV d f rows).getD n.toNat d)) := fun β d f => by rw [hval β d f, foldV_at ok er]
    have newown : ∀ {k : Nat} (x : Nat), ownAt (own ++ [(a, k)]) x = none → ownAt own x = none ∧ x ≠ a := fun {k} x hx => by
      rw [ownAt_app] at hx
      cases c : ownAt own x with
      | some y => rw [c] at hx; cases hx
      | none =>
        rw [c] at hx
        refine ⟨rfl, fun z => ?_⟩
        rw [if_pos z.symm] at hx
        cases hx
    have stillown : ∀ {k : Nat} (x : Nat), (ownAt own x).isSome = true ∨ x = a → (ownAt (own ++ [(a, k)]) x).isSome = true := fun {k} x hx => by
      rw [ownAt_app]
      rcases hx with hx | rfl
      · obtain ⟨y, hy⟩ := Option.isSome_iff_exists.1 hx
        rw [hy]
        rfl
      · rw [own0, if_pos rfl]
        rfl
    have part' : ∀ {k : Nat} (above below : List (Nat × Bool)) (x : Nat), left = above ++ (x, true) :: below → ∀ n ∈ (rowAt t x).2, (ownAt (own ++ [(a, k)]) n.toNat).isSome = true ∨ ∃ b, (n.toNat, b) ∈ above := fun {k} above below x e n hn => by
      rcases h.part ((a, true) :: above) below x (by show (a, true) :: left = _; rw [e]; rfl) n hn with z | ⟨b2, z⟩
      · exact .inl (stillown _ (.inl z))
      · rcases List.mem_cons.1 z with z | z
        · exact .inl (stillown _ (.inr (congrArg Prod.fst z)))
        · exact .inr ⟨b2, z⟩
    have ownd' : ∀ {k : Nat}, ((own ++ [(a, k)]).map (·.1)).Nodup := fun {k} => by
      rw [List.map_append]
      refine List.nodup_append.2 ⟨h.ownd, List.nodup_cons.2 ⟨fun z => (nomatch z), List.nodup_nil⟩, fun x hx y hy => ?_⟩
      rw [List.mem_singleton.1 hy]
      intro z
      rw [z] at hx
      exact ownAt_none own0 hx
    have less : ∀ {rows' : Tr} {k : Nat}, measP t ⟨left, rows', own ++ [(a, k)]⟩ < measP t ⟨(a, true) :: left, rows, own⟩ := fun {rows' k} => meas_le rfl fun x h1 h2 => by
      obtain ⟨h3, h4⟩ := newown x h1
      refine ⟨h3, fun z => ?_⟩
      rcases List.mem_cons.1 z with z | z
      · exact h4 (congrArg Prod.fst z)
      · exact h2 z
    cases cm : markIx rows m with
    | some k =>
      have es : stepP t ⟨(a, true) :: left, rows, own⟩ = ⟨left, rows, own ++ [(a, k)]⟩ := by
        show (if (ownAt own a).isSome = true then _ else if true = true then _ else _) = _
        rw [if_neg c1, if_pos rfl, ← em, cm]
      rw [es]
      have hk := markIx_some cm
      have lk := (List.getElem?_eq_some_iff.1 hk).1
      refine ⟨⟨fun p hp => h.stk p (List.mem_cons_of_mem _ hp), ordt.2, part', fun p hp => ?_, ownd', by show rows.length ≤ (own ++ [(a, k)]).length; have := h.few; rw [List.length_append]; replace this : rows.length ≤ own.length := this; omega, h.nd, h.idx, fun p hp => ?_, fun p hp β d f => ?_, h.rowl, ?_⟩, less⟩
      · rcases List.mem_append.1 hp with hp | hp
        · exact h.ownl p hp
        · rw [List.mem_singleton.1 hp]
          exact ⟨la, lk⟩
      · rcases List.mem_append.1 hp with hp | hp
        · exact h.name p hp
        · rw [List.mem_singleton.1 hp]
          show (rowAt rows k).1 = (rowAt t a).1
          rw [rowAt_eq hk, ra, em2]
      · rcases List.mem_append.1 hp with hp | hp
        · exact h.same p hp β d f
        · rw [List.mem_singleton.1 hp]
          show (foldV d f rows)[k]? = (foldV d f t)[a]?
          rw [vt, foldV_at h.idx hk]
      · have sk : szT rows k = szT t a := by
          unfold szT
          rw [List.getD_eq_getElem?_getD, List.getD_eq_getElem?_getD, vt, foldV_at h.idx hk]
        rcases cons_app ebase with ⟨_, e, e2⟩ | ⟨pre', rfl, e⟩
        · exfalso
          have ea : a = t.length - 1 := congrArg Prod.fst e
          have := hsz k lk
          replace this : szT rows k < szT t (t.length - 1) := this
          rw [sk, ea] at this
          exact Int.lt_irrefl _ this
        · have sa := hpre (a, true) List.mem_cons_self
          refine .inl ⟨pre', b', e, fun p hp => hpre p (List.mem_cons_of_mem _ hp), hsz, ?_⟩
          show ownAt (own ++ [(a, k)]) (t.length - 1) = none
          rw [ownAt_app, hroot, if_neg fun z => ?_]
          · rfl
          · rw [z] at sa
            exact Int.lt_irrefl _ sa
    | none =>
      have es : stepP t ⟨(a, true) :: left, rows, own⟩ = ⟨left, rows ++ [m], own ++ [(a, rows.length)]⟩ := by
        show (if (ownAt own a).isSome = true then _ else if true = true then _ else _) = _
        rw [if_neg c1, if_pos rfl, ← em, cm]
      rw [es]
      have hm := markIx_none cm
      have rold : ∀ k, k < rows.length → rowAt (rows ++ [m]) k = rowAt rows k := fun k hk => getD_snoc hk
      have rnew : rowAt (rows ++ [m]) rows.length = m := getD_last
      have vnew : ∀ (β : Type) (d : β) (f : Str → List β → β), (foldV d f (rows ++ [m]))[rows.length]? = (foldV d f t)[a]? := fun β d f => by
        rw [vt, foldV_snoc, List.getElem?_append_right (by rw [foldV_len]; exact Nat.le_refl _), foldV_len, Nat.sub_self]
        rfl
      refine ⟨⟨fun p hp => h.stk p (List.mem_cons_of_mem _ hp), ordt.2, part', fun p hp => ?_, ownd', by show (rows ++ [m]).length ≤ (own ++ [(a, rows.length)]).length; have := h.few; replace this : rows.length ≤ own.length := this; rw [List.length_append, List.length_append]; simp; omega, ?_, h.idx.snoc mlen mnum, fun p hp => ?_, fun p hp β d f => ?_, fun k q hq => ?_, ?_⟩, less⟩
      · show p.1 < t.length ∧ p.2 < (rows ++ [m]).length
        rw [List.length_append, List.length_singleton]
        rcases List.mem_append.1 hp with hp | hp
        · have := h.ownl p hp
          replace this : p.1 < t.length ∧ p.2 < rows.length := this
          exact ⟨this.1, by omega⟩
        · rw [List.mem_singleton.1 hp]
          exact ⟨la, Nat.lt_succ_self _⟩
      · refine List.nodup_append.2 ⟨h.nd, List.nodup_cons.2 ⟨fun z => (nomatch z), List.nodup_nil⟩, fun x hx y hy => ?_⟩
        rw [List.mem_singleton.1 hy]
        intro z
        rw [z] at hx
        exact hm hx
      · show (rowAt (rows ++ [m]) p.2).1 = _
        rcases List.mem_append.1 hp with hp | hp
        · rw [rold _ (h.ownl p hp).2]
          exact h.name p hp
        · rw [List.mem_singleton.1 hp]
          show (rowAt (rows ++ [m]) rows.length).1 = (rowAt t a).1
          rw [rnew, ra, em2]
      · show (foldV d f (rows ++ [m]))[p.2]? = _
        rcases List.mem_append.1 hp with hp | hp
        · rw [foldV_app h.idx m (h.ownl p hp).2]
          exact h.same p hp β d f
        · rw [List.mem_singleton.1 hp]
          exact vnew β d f
      · replace hq : (rows ++ [m])[k]? = some q := hq
        show ∃ a, a < t.length ∧ q.1 = (rowAt t a).1 ∧ q.2.length = (rowAt t a).2.length ∧ ∀ (j : Nat) (n m' : Int), q.2[j]? = some n → (rowAt t a).2[j]? = some m' → 0 ≤ m' ∧ m'.toNat < a ∧ 0 ≤ n ∧ n.toNat < k ∧ (rowAt (rows ++ [m]) n.toNat).1 = (rowAt t m'.toNat).1
        by_cases c : k < rows.length
        · rw [List.getElem?_append_left c] at hq
          obtain ⟨x, x1, x2, x3, x4⟩ := h.rowl k q hq
          refine ⟨x, x1, x2, x3, fun j n m' hn hm' => ?_⟩
          obtain ⟨y1, y2, y3, y4, y5⟩ := x4 j n m' hn hm'
          exact ⟨y1, y2, y3, y4, by rw [rold _ (by omega)]; exact y5⟩
        · rw [List.getElem?_append_right (by omega)] at hq
          have ek : k = rows.length := by
            have := (List.getElem?_eq_some_iff.1 hq).1
            rw [List.length_singleton] at this
            omega
          subst ek
          rw [Nat.sub_self] at hq
          cases hq
          refine ⟨a, la, by rw [ra, em2], by rw [ra, em2, List.length_map], fun j n m' hn hm' => ?_⟩
          rw [ra] at hm'
          obtain ⟨y1, y2, y3, y4, y5⟩ := mrow j n m' hn hm'
          exact ⟨y1, y2, y3, y4, by rw [rold _ y4]; exact y5⟩
      · rcases cons_app ebase with ⟨_, e, e2⟩ | ⟨pre', rfl, e⟩
        · have ea : a = t.length - 1 := congrArg Prod.fst e
          refine .inr ⟨e2, rows.length, ?_, ?_⟩
          · show ownAt (own ++ [(a, rows.length)]) (t.length - 1) = _
            rw [ownAt_app, hroot, if_pos ea]
            rfl
          · show _ = (rows ++ [m]).length
            rw [List.length_append, List.length_singleton]
        · have sa := hpre (a, true) List.mem_cons_self
          refine .inl ⟨pre', b', e, fun p hp => hpre p (List.mem_cons_of_mem _ hp), fun k hk => ?_, ?_⟩
          · replace hk : k < (rows ++ [m]).length := hk
            show szT (rows ++ [m]) k < _
            rw [List.length_append, List.length_singleton] at hk
            by_cases c : k < rows.length
            · have : szT (rows ++ [m]) k = szT rows k := by
                unfold szT
                rw [List.getD_eq_getElem?_getD, List.getD_eq_getElem?_getD, foldV_app h.idx m c]
              rw [this]
              exact hsz k c
            · have ek : k = rows.length := by omega
              subst ek
              have : szT (rows ++ [m]) rows.length = szT t a := by
                unfold szT
                rw [List.getD_eq_getElem?_getD, List.getD_eq_getElem?_getD, vnew]
              rw [this]
              exact sa
          · show ownAt (own ++ [(a, rows.length)]) (t.length - 1) = none
            rw [ownAt_app, hroot, if_neg fun z => ?_]
            · rfl
            · rw [z] at sa
              exact Int.lt_irrefl _ sa
end Bk

set_option Elab.async false
set_option linter.all false
set_option maxRecDepth 100000
set_option maxHeartbeats 4000000
/-! Bk42: the plain tree's loop on the heap; reversed; dicts by whole numbers. -/
namespace Bk
open PySem PySem.Spec PyProof.Rows L2
/-! ### dicts by whole numbers -/
section
variable {H : Hp} {p : Addr} {kvs : List (L2.Key × V)} {n : Int} {v : V}
theorem g_dgI {P : V → Prop} (hp : H p = some (.dK kvs)) (e : valV kvs (.inl n) = some v) (h : P v) : ∃ a v, V.ref p = .ref a ∧ DGet H a (.int n) (some v) ∧ P v := ⟨p, v, rfl, by rw [← e]; exact DGet.k (k := .inl n) hp, h⟩
theorem g_diI {P : Option V → Prop} (hp : H p = some (.dK kvs)) (h : P (valV kvs (.inl n))) : ∃ a o, V.ref p = .ref a ∧ DGet H a (.int n) o ∧ P o := ⟨p, _, rfl, DGet.k (k := .inl n) hp, h⟩
theorem g_dpI {P : Hp → Prop} (hp : H p = some (.dK kvs)) (hl : kvs.length ≤ 1000000) (h : P (upd H p (.dK (putK kvs (.inl n) v)))) : ∃ a H4, V.ref p = .ref a ∧ DPut H a (.int n) v H4 ∧ P H4 := ⟨p, _, rfl, DPut.k (k := .inl n) hp (Nat.lt_of_le_of_lt hl (by decide)), h⟩
end
/-! ### reversed(tuple) -/
theorem g_revA {K : PySem.W.Frag} {te : TE} {R : L2.It → Hp → Prop} {σ : L2.St} {H : Hp} (h : te σ H fun v H1 => ∃ (a : Addr) (xs : List V), v = .ref a ∧ ((SqL K H1 a xs ∧ R (L2.Itv K a xs.length) H1) ∨ (SqT K H1 a xs ∧ R (RT.ItvT K a xs.length) H1))) : RT.iRevA K te σ H R := h
theorem walk_revT {K : PySem.W.Frag} {a : Addr} {xs : List V} : Walk (RT.ItvT K a xs.length) xs.length (fun H => SqT K H a xs) (fun i H x H' => H' = H ∧ xs[xs.length - 1 - i]? = some x) :=
  ⟨fun i H hi q => ⟨hi, xs, xs[xs.length - 1 - i], q, List.getElem?_eq_getElem (by omega)⟩, fun _ _ => Nat.le_refl _, fun i H x H' _ q y => ⟨y.1, y.2 xs q⟩⟩
/-! ### the plain tree's loop -/
def ownK (own : List (Nat × Nat)) : List (L2.Key × V) := own.map fun p => (.inl (p.1 : Int), .int (p.2 : Nat))
theorem valV_own (n : Nat) : ∀ own : List (Nat × Nat), valV (ownK own) (.inl (n : Int)) = (ownAt own n).map fun k => V.int (k : Nat)
  | [] => rfl
  | p :: own => by
    have ih := valV_own n own
    unfold ownAt at ih ⊢
    by_cases c : p.1 = n
    · have e : ((.inl (p.1 : Int), .int (p.2 : Nat)) : L2.Key × V).1 = .inl (n : Int) := by rw [c]
      rw [List.find?_cons_of_pos (by simp [c])]
      show valV (((.inl (p.1 : Int), .int (p.2 : Nat)) : L2.Key × V) :: ownK own) _ = _
      rw [valV_pos e]
      rfl
    · have e : ¬ ((.inl (p.1 : Int), .int (p.2 : Nat)) : L2.Key × V).1 = .inl (n : Int) := fun z => c (Int.ofNat_inj.1 (Sum.inl.inj z))
      rw [List.find?_cons_of_neg (by simp [c])]
      show valV (((.inl (p.1 : Int), .int (p.2 : Nat)) : L2.Key × V) :: ownK own) _ = _
      rw [valV_neg e]
      exact ih
theorem ownK_put {own : List (Nat × Nat)} {a k : Nat} (h : ownAt own a = none) : putK (ownK own) (.inl (a : Int)) (.int (k : Nat)) = ownK (own ++ [(a, k)]) := by
  rw [L2.putK_new _ (by rw [valV_own, h]; rfl)]
  unfold ownK
  rw [List.map_append]
  rfl
/-- (a row's number, is it done) on a pile, its top last -/
def LfAt (H : Hp) : List (Nat × Bool) → List V → Prop
  | [], vs => vs = []
  | p :: l, vs => ∃ xs q, vs = xs ++ [.ref q] ∧ H q = some (.tup [.int (p.1 : Nat), .bl p.2]) ∧ LfAt H l xs
theorem LfAt.tk {H H' : Hp} (t : Tk H H') : ∀ {l : List (Nat × Bool)} {vs : List V}, LfAt H l vs → LfAt H' l vs
  | [], _, h => h
  | p :: l, _, ⟨xs, q, e, h1, h2⟩ => ⟨xs, q, e, t _ _ h1, LfAt.tk t h2⟩
theorem LfAt.len {H : Hp} : ∀ {l : List (Nat × Bool)} {vs : List V}, LfAt H l vs → vs.length = l.length
  | [], _, h => by rw [show _ = _ from h]; rfl
  | p :: l, _, ⟨xs, q, e, h1, h2⟩ => by rw [e, List.length_append, LfAt.len h2]; rfl
theorem LfAt.ext {H : Hp} {l : List (Nat × Bool)} {xs : List V} (h : LfAt H l xs) : ∀ {ps : List (Nat × Bool)} {acc : List V}, acc.length = ps.length → (∀ (j : Nat) (v : V), acc[j]? = some v → ∃ q p, v = .ref q ∧ ps[ps.length - 1 - j]? = some p ∧ H q = some (.tup [.int (p.1 : Nat), .bl p.2])) → LfAt H (ps ++ l) (xs ++ acc)
  | [], acc, hl, _ => by
    rw [List.eq_nil_of_length_eq_zero hl, List.append_nil]
    exact h
  | p :: ps, acc, hl, ha => by
    rw [List.length_cons] at hl
    have ne : acc ≠ [] := fun z => by rw [z] at hl; cases hl
    have e := List.dropLast_concat_getLast ne
    have hlast : acc[ps.length]? = some (acc.getLast ne) := by
      rw [List.getLast_eq_getElem, List.getElem?_eq_getElem (by omega)]
      congr 2
      omega
    obtain ⟨q, p', hq, hp, hH⟩ := ha _ _ hlast
    rw [List.length_cons, show ps.length + 1 - 1 - ps.length = 0 by omega] at hp
    cases hp
    refine ⟨xs ++ acc.dropLast, q, ?_, hH, LfAt.ext h (by rw [List.length_dropLast]; omega) fun j v hj => ?_⟩
    · rw [List.append_assoc, ← hq, e]
    · have lj : j < acc.dropLast.length := (List.getElem?_eq_some_iff.1 hj).1
      have ld : acc.dropLast.length = ps.length := by rw [List.length_dropLast]; omega
      have hj2 : acc[j]? = some v := by rw [← e, List.getElem?_append_left lj]; exact hj
      obtain ⟨q2, p2, h1, h2, h3⟩ := ha j v hj2
      refine ⟨q2, p2, h1, ?_, h3⟩
      rw [List.length_cons, show ps.length + 1 - 1 - j = (ps.length - 1 - j) + 1 by omega] at h2
      exact h2
theorem valV_marks {m : Mark} : ∀ (ps : List (Mark × Addr × V)) (i0 : Nat), (∀ (i : Nat) (p : Mark × Addr × V), ps[i]? = some p → p.2.2 = .int ((i0 + i : Nat) : Int)) → valV (kvm ps) m = (markIx (ps.map (·.1)) m).map fun k => V.int ((i0 + k : Nat) : Int)
  | [], i0, _ => rfl
  | p :: ps, i0, h => by
    have ih := valV_marks (m := m) ps (i0 + 1) fun i q hq => by
      rw [h (i + 1) q hq]
      congr 2
      omega
    unfold markIx at ih ⊢
    rw [List.map_cons, List.findIdx?_cons]
    show valV ((p.1, p.2.2) :: kvm ps) m = _
    by_cases c : p.1 = m
    · rw [valV_pos (p := (p.1, p.2.2)) c, if_pos (by simp [c])]
      show some p.2.2 = _
      rw [h 0 p rfl]
      rfl
    · rw [valV_neg (p := (p.1, p.2.2)) c, if_neg (by simp [c]), ih, Option.map_map]
      congr 1
      funext k
      show V.int ((i0 + 1 + k : Nat) : Int) = V.int ((i0 + (k + 1) : Nat) : Int)
      congr 2
      omega
theorem marks_reps {H : Hp} : ∀ (ps : List (Mark × Addr × V)), (∀ p ∈ ps, MarkAt H p.2.1 p.1) → Reps H ((ps.map (·.1)).map rowD) (ps.map fun p => V.ref p.2.1)
  | [], _ => by simp only [List.map, Reps]
  | p :: ps, h => by
    obtain ⟨t, h1, h2⟩ := h p List.mem_cons_self
    exact ⟨_, _, rfl, row_rep (s := p.1.1) (ns := p.1.2) h1 h2, marks_reps ps fun q hq => h q (List.mem_cons_of_mem _ hq)⟩
theorem g_npD {P : Program} {w : World} {H : Hp} {F : Hp → Prop} {a b : Addr} {ps : List (Mark × Addr × V)} {m : Mark} {v : V} (nd : NdAt P w H a ps) (mk : MarkAt H b m) (vn : valV (kvm ps) m = none) (hl : ps.length ≤ 1000000) (h : F (upd H a (NdO P w a (ps ++ [(m, b, v)])))) :
    ∃ a' b' ps' m', V.ref a = .ref a' ∧ V.ref b = .ref b' ∧ NdAt P w H a' ps' ∧ MarkAt H b' m' ∧ valV (kvm ps') m' = none ∧ ps'.length ≤ 1000000 ∧ F (upd H a' (NdO P w a' (ps' ++ [(m', b', v)]))) := ⟨a, b, ps, m, rfl, rfl, nd, mk, vn, hl, h⟩
section
variable {t : Tr} {a : Nat} {left : List (Nat × Bool)} {rows : Tr} {own : List (Nat × Nat)}
theorem stepP_there {b : Bool} {k : Nat} (h : ownAt own a = some k) : stepP t ⟨(a, b) :: left, rows, own⟩ = ⟨left, rows, own⟩ := by
  show (if (ownAt own a).isSome = true then _ else _) = _
  exact if_pos (by rw [h]; rfl)
theorem stepP_open (h : ownAt own a = none) : stepP t ⟨(a, false) :: left, rows, own⟩ = ⟨(rowAt t a).2.map (fun n => (n.toNat, false)) ++ (a, true) :: left, rows, own⟩ := by
  show (if (ownAt own a).isSome = true then _ else if false = true then _ else _) = _
  rw [if_neg (by rw [h]; exact Bool.false_ne_true), if_neg Bool.false_ne_true]
theorem stepP_old {k : Nat} (h : ownAt own a = none) (hm : markIx rows (markOf t own a) = some k) : stepP t ⟨(a, true) :: left, rows, own⟩ = ⟨left, rows, own ++ [(a, k)]⟩ := by
  show (if (ownAt own a).isSome = true then _ else if true = true then _ else _) = _
  rw [if_neg (by rw [h]; exact Bool.false_ne_true), if_pos rfl, hm]
theorem stepP_new (h : ownAt own a = none) (hm : markIx rows (markOf t own a) = none) : stepP t ⟨(a, true) :: left, rows, own⟩ = ⟨left, rows ++ [markOf t own a], own ++ [(a, rows.length)]⟩ := by
  show (if (ownAt own a).isSome = true then _ else if true = true then _ else _) = _
  rw [if_neg (by rw [h]; exact Bool.false_ne_true), if_pos rfl, hm]
end
def spPlain : Sp := fun vs H Q _ => ∃ (t : Tr) (tv : V), vs = [tv] ∧ Rep H (treeD t) tv ∧ 0 < t.length ∧ t.length ≤ 200 ∧ TrIdx t ∧
  ∀ (k : Nat) (v : V) (H' : Hp), (runP t k).left = [] → PInv t (runP t k) → Ex H H' → Rep H' (treeD (runP t k).rows) v → Q v H'
theorem PInv.sizes {t : Tr} {s : PlSt} (h : PInv t s) : s.own.length ≤ t.length ∧ s.rows.length ≤ t.length := by
  have a : s.own.length ≤ t.length := by
    have : (s.own.map (·.1)).length ≤ (List.range t.length).length := List.Nodup.length_le_of_subset h.ownd fun x hx => by
      obtain ⟨p, hp, rfl⟩ := List.mem_map.1 hx
      exact List.mem_range.2 (h.ownl p hp).1
    rw [List.length_map, List.length_range] at this
    exact this
  exact ⟨a, Nat.le_trans h.few a⟩
theorem cnt_le {t : Tr} {left : List (Nat × Bool)} {own : List (Nat × Nat)} : cntP t left own ≤ t.length := by
  have := List.countP_le_length (l := List.range t.length) (p := fun a => (ownAt own a).isNone && !decide ((a, true) ∈ left))
  rw [List.length_range] at this
  exact this
end Bk

set_option Elab.async false
set_option linter.all false
set_option maxRecDepth 100000
set_option maxHeartbeats 4000000
/-! Bk43: what is printed of a tree. -/
namespace Bk
open PySem PySem.Spec PyProof.Rows L2
def txsD (ts : List Str) : D := .tup (ts.map D.str)
theorem txs_hard (ts : List Str) : (txsD ts).hard = true := hards_map (fun _ => rfl) ts
def joinIt (parts : List (List Str)) : Itm → Str
  | .inl s => s
  | .inr b => (parts.getD b.1.toNat []).getD b.2.toNat ""
def joinRow (parts : List (List Str)) (r : List Itm) : Str := Txt.join "" (r.map (joinIt parts))
def ruleP (w : Wd) (p : Prn) (s : Str) : List (List Itm) := match ((tabFrom 0 w).zip p.2.2).find? (fun x => decide (x.1.2.1 = s)) with
  | some x => x.2
  | none => []
def printF (w : Wd) (p : Prn) : Str → List (List Str) → List Str := fun s parts => (ruleP w p s).map (joinRow parts)
def prints (w : Wd) (p : Prn) (t : Tr) : List (List Str) := foldV [] (printF w p) t
def partsP (acc : List (List Str)) (ns : List Int) : List (List Str) := ns.map fun n => acc.getD n.toNat []
def BxAt (parts : List (List Str)) (b : Int × Int) : Prop := (0 ≤ b.1 ∧ b.1 < (parts.length : Nat)) ∧ 0 ≤ b.2 ∧ b.2 < ((parts.getD b.1.toNat []).length : Nat)
structure RowPr (w : Wd) (p : Prn) (acc : List (List Str)) (row : Str × List Int) : Prop where
  made : ∃ (j : Nat) (e : Nat × Mk), (tabFrom 0 w)[j]? = some e ∧ e.2.1 = row.1 ∧ p.2.2[j]? = some (ruleP w p row.1)
  idx : ∀ n ∈ row.2, 0 ≤ n ∧ n < (acc.length : Nat)
  two : row.2.length ≤ 2
  rule : (ruleP w p row.1).length ≤ 10
  item : ∀ r ∈ ruleP w p row.1, r.length ≤ 6 ∧ ∀ b, Sum.inr b ∈ r → BxAt (partsP acc row.2) b
  long : ∀ r ∈ ruleP w p row.1, (joinRow (partsP acc row.2) r).length ≤ 1000000
def PrFit (w : Wd) (p : Prn) (t : Tr) : Prop := ∀ (i : Nat) (row : Str × List Int), t[i]? = some row → RowPr w p (prints w p (t.take i)) row
theorem prints_take {w : Wd} {p : Prn} {t : Tr} {i : Nat} {row : Str × List Int} (h : t[i]? = some row) : prints w p (t.take (i + 1)) = prints w p (t.take i) ++ [(ruleP w p row.1).map (joinRow (partsP (prints w p (t.take i)) row.2))] := by
  unfold prints
  rw [take_at h, foldV_snoc]
  rfl
theorem prints_len {w : Wd} {p : Prn} {t : Tr} : (prints w p t).length = t.length := foldV_len
theorem ruleP_at {w : Wd} {p : Prn} (ok : WoodOk w) {j : Nat} {e : Nat × Mk} {x : List (List Itm)} (h1 : (tabFrom 0 w)[j]? = some e) (h2 : p.2.2[j]? = some x) : ruleP w p e.2.1 = x := by
  have hz := zip_at h1 h2
  have nd := ok.nd
  unfold ruleP
  generalize tabFrom 0 w = L at h1 hz nd
  have key : ∀ (L : List (Nat × Mk)) (R : List (List (List Itm))) (j : Nat), (L.map fun e => e.2.1).Nodup → (L.zip R)[j]? = some (e, x) → (L.zip R).find? (fun z => decide (z.1.2.1 = e.2.1)) = some (e, x) := by
    intro L
    induction L with
    | nil => intro R j _ h; simp at h
    | cons a L ih =>
      intro R j nd h
      cases R with
      | nil => simp at h
      | cons b R =>
        rw [List.map_cons, List.nodup_cons] at nd
        rw [List.zip_cons_cons] at h ⊢
        cases j with
        | zero =>
          cases h
          rw [List.find?_cons]
          simp
        | succ j =>
          have h' : (L.zip R)[j]? = some (e, x) := h
          have hm := (List.of_mem_zip (List.mem_of_getElem? h')).1
          have ne : a.2.1 ≠ e.2.1 := fun z => nd.1 (List.mem_map.2 ⟨e, hm, z.symm⟩)
          rw [List.find?_cons]
          simp only [ne, decide_false]
          exact ih R j nd.2 h'
  rw [key L p.2.2 j nd hz]
/-! ### trees of a wood -/
structure TrW (w : Wd) (t : Tr) : Prop where
  idx : TrIdx t
  row : ∀ (i : Nat) (row : Str × List Int), t[i]? = some row → ∃ j e, PartsAt w ([], []) t i row j e
theorem goTr_w {w : Wd} {t : Tr} (ok : WoodOk w) (hg : goTr w [] t = true) : TrW w t :=
  ⟨fun i r h => by
    obtain ⟨j, e, pa⟩ := parts_at (r := ([], [])) ok hg h
    refine ⟨pa.two, fun n hn => ?_⟩
    obtain ⟨u, hu⟩ := List.mem_iff_getElem?.1 hn
    obtain ⟨a, b, _⟩ := pa.idx u n hu
    exact ⟨a, b⟩, fun i row h => parts_at ok hg h⟩
theorem PInv.trw {w : Wd} {t : Tr} {s : PlSt} (ht : TrW w t) (h : PInv t s) : TrW w s.rows := by
  refine ⟨h.idx, fun k r hr => ?_⟩
  obtain ⟨a, la, h1, h2, h3⟩ := h.rowl k r hr
  have ea := List.getElem?_eq_getElem la
  have ra := rowAt_eq ea
  rw [ra] at h1 h2 h3
  obtain ⟨j, e, pa⟩ := ht.row a t[a] ea
  refine ⟨j, e, pa.tab, pa.nm.trans h1.symm, h2.trans pa.len, by have := pa.two; omega, fun u n hu => ?_, by rw [h1]; exact pa.kind⟩
  have lu := (List.getElem?_eq_some_iff.1 hu).1
  have em := List.getElem?_eq_getElem (l := t[a].2) (i := u) (by omega)
  obtain ⟨m0, ma, n0, nk, nm⟩ := h3 u n _ hu em
  obtain ⟨_, _, q, hq, hd⟩ := pa.idx u _ em
  have lr := (List.getElem?_eq_some_iff.1 hr).1
  obtain ⟨q', hq'⟩ : ∃ q', s.rows[n.toNat]? = some q' := ⟨_, List.getElem?_eq_getElem (by omega)⟩
  rw [rowAt_eq hq', rowAt_eq hq] at nm
  exact ⟨n0, by omega, q', hq', by rw [nm]; exact hd⟩
/-! ### how long the texts are -/
def Lp (ts : List Str) : Nat := (ts.map (·.length)).sum
theorem perm_sum {l m : List Nat} (h : l.Perm m) : l.sum = m.sum := by
  induction h with
  | nil => rfl
  | cons x _ ih => rw [List.sum_cons, List.sum_cons, ih]
  | swap x y l => rw [List.sum_cons, List.sum_cons, List.sum_cons, List.sum_cons]; omega
  | trans _ _ a b => rw [a, b]
theorem sub_sum {α : Type} [DecidableEq α] (f : α → Nat) : ∀ (bs L : List α), bs.Nodup → (∀ b ∈ bs, b ∈ L) → (bs.map f).sum ≤ (L.map f).sum
  | [], L, _, _ => Nat.zero_le _
  | b :: bs, L, nd, h => by
    have nd' := List.nodup_cons.1 nd
    have p := List.perm_cons_erase (h b List.mem_cons_self)
    rw [perm_sum (p.map f), List.map_cons, List.map_cons, List.sum_cons, List.sum_cons]
    have := sub_sum f bs (L.erase b) nd'.2 fun c hc => (List.mem_erase_of_ne (fun z => nd'.1 (by rw [← z]; exact hc))).2 (h c (List.mem_cons_of_mem _ hc))
    omega
def allBx : Nat → List (List Str) → List (Int × Int)
  | _, [] => []
  | n, ts :: parts => (List.range ts.length).map (fun b => (((n : Nat) : Int), ((b : Nat) : Int))) ++ allBx (n + 1) parts
theorem range_sum (f : Nat → Nat) : ∀ (ts : List Str), (∀ (j : Nat) (s : Str), ts[j]? = some s → f j = s.length) → ((List.range ts.length).map f).sum = Lp ts
  | [], _ => rfl
  | s :: ts, h => by
    rw [List.length_cons, List.range_succ_eq_map, List.map_cons, List.sum_cons, List.map_map, h 0 s rfl]
    show s.length + ((List.range ts.length).map fun j => f (j + 1)).sum = s.length + Lp ts
    rw [range_sum (fun j => f (j + 1)) ts fun j u hu => h (j + 1) u hu]
theorem allBx_sum (f : Int × Int → Nat) : ∀ (parts : List (List Str)) (n : Nat), (∀ (p b : Nat) (ts : List Str) (s : Str), parts[p]? = some ts → ts[b]? = some s → f (((n + p : Nat) : Int), ((b : Nat) : Int)) = s.length) → ((allBx n parts).map f).sum = (parts.map Lp).sum
  | [], _, _ => rfl
  | ts :: parts, n, h => by
    show ((((List.range ts.length).map fun b => (((n : Nat) : Int), ((b : Nat) : Int))) ++ allBx (n + 1) parts).map f).sum = _
    rw [List.map_append, List.sum_append, List.map_map, List.map_cons, List.sum_cons, allBx_sum f parts (n + 1) fun p b us s h1 h2 => by
      have := h (p + 1) b us s h1 h2
      rw [show n + (p + 1) = n + 1 + p by omega] at this
      exact this]
    congr 1
    exact range_sum _ ts fun j s hs => h 0 j ts s rfl hs
theorem allBx_mem : ∀ (parts : List (List Str)) (n : Nat) (p b : Nat) (ts : List Str), parts[p]? = some ts → b < ts.length → (((n + p : Nat) : Int), ((b : Nat) : Int)) ∈ allBx n parts
  | [], n, p, b, ts, h, _ => by simp at h
  | us :: parts, n, 0, b, ts, h, hb => by
    cases h
    exact List.mem_append_left _ (List.mem_map.2 ⟨b, List.mem_range.2 hb, rfl⟩)
  | us :: parts, n, p + 1, b, ts, h, hb => by
    have := allBx_mem parts (n + 1) p b ts h hb
    rw [show n + 1 + p = n + (p + 1) by omega] at this
    exact List.mem_append_right _ this
theorem join_sumP (parts : List (List Str)) (r : List Itm) : (joinRow parts r).length = (r.map fun i => (joinIt parts i).length).sum := by
  unfold joinRow
  rw [str_len, joinE]
  rw [List.length_flatten, List.map_map, List.map_map]
  congr 1
theorem items_sum (parts : List (List Str)) : ∀ (l : List Itm), (∀ i ∈ l, ∀ s, i = .inl s → s.length ≤ 8) → (l.map fun i => (joinIt parts i).length).sum ≤ 8 * l.length + ((l.filterMap boxOf).map fun b => (joinIt parts (.inr b)).length).sum
  | [], _ => Nat.zero_le _
  | i :: l, h => by
    have ih := items_sum parts l fun j hj => h j (List.mem_cons_of_mem _ hj)
    rw [List.map_cons, List.sum_cons, List.length_cons]
    cases i with
    | inl s =>
      have := h _ List.mem_cons_self s rfl
      show s.length + _ ≤ _
      rw [List.filterMap_cons_none (show boxOf (.inl s) = none from rfl)]
      omega
    | inr b =>
      rw [List.filterMap_cons_some (show boxOf (.inr b) = some b from rfl), List.map_cons, List.sum_cons]
      omega
theorem flat_sum (f : Itm → Nat) : ∀ (x : List (List Itm)), (x.map fun r => (r.map f).sum).sum = (x.flatten.map f).sum
  | [] => rfl
  | r :: x => by
    rw [List.map_cons, List.sum_cons, List.flatten_cons, List.map_append, List.sum_append, flat_sum f x]
theorem rows_sum {parts : List (List Str)} {ls : Str} {cs ps : List Int} {n : Int} {x : List (List Itm)} (ok : RpOk ls cs ps n x) (hb : ∀ b, Sum.inr b ∈ x.flatten → BxAt parts b) : Lp (x.map (joinRow parts)) ≤ 48 + (parts.map Lp).sum := by
  unfold Lp
  rw [List.map_map]
  have e : (x.map ((·.length) ∘ joinRow parts)) = x.map fun r => (r.map fun i => (joinIt parts i).length).sum := List.map_congr_left fun r _ => join_sumP parts r
  rw [e, flat_sum]
  have a := items_sum parts x.flatten fun i hi s es => by
    have := ok.item i hi
    rw [es] at this
    exact this.1.2
  have b := sub_sum (fun b => (joinIt parts (.inr b)).length) (x.flatten.filterMap boxOf) (allBx 0 parts) ok.once fun b hb' => by
    obtain ⟨i, hi, ei⟩ := List.mem_filterMap.1 hb'
    cases i with
    | inl s => cases ei
    | inr c =>
      cases ei
      obtain ⟨⟨b0, b1⟩, b2, b3⟩ := hb b hi
      have l1 : b.1.toNat < parts.length := by omega
      have e1 := List.getElem?_eq_getElem l1
      rw [List.getD_eq_getElem?_getD, e1] at b3
      have z := allBx_mem parts 0 b.1.toNat b.2.toNat parts[b.1.toNat] e1 (by show _ < _; replace b3 : b.2 < ((parts[b.1.toNat]).length : Nat) := b3; omega)
      rw [Nat.zero_add, show ((b.1.toNat : Nat) : Int) = b.1 by omega, show ((b.2.toNat : Nat) : Int) = b.2 by omega] at z
      exact z
  have c := allBx_sum (fun b => (joinIt parts (.inr b)).length) parts 0 fun p b ts s h1 h2 => by
    have ep : parts.getD p [] = ts := by rw [List.getD_eq_getElem?_getD, h1]; rfl
    have es : ts.getD b "" = s := by rw [List.getD_eq_getElem?_getD, h2]; rfl
    show ((parts.getD (((0 + p : Nat) : Int)).toNat []).getD (((b : Nat) : Int)).toNat "").length = _
    rw [Nat.zero_add, Int.toNat_natCast, Int.toNat_natCast, ep, es]
  have d := ok.many
  rw [c] at b
  show _ ≤ 48 + (parts.map fun ts => (ts.map (·.length)).sum).sum
  replace b : _ ≤ (parts.map fun ts => (ts.map (·.length)).sum).sum := b
  omega
/-- what is printed: as many texts as told, not too long -/
theorem print_at {w : Wd} {p : Prn} {t : Tr} (ok : WoodOk w) (pok : PrOk w p) (ht : TrW w t) : ∀ (n k : Nat) (row : Str × List Int), k < n → t[k]? = some row → ∃ ts, (prints w p t)[k]? = some ts ∧ (ts.length : Int) = cntAt p.2.1 (kindAt w row.1) ∧ ((Lp ts : Nat) : Int) ≤ 48 * szT t k
  | 0, k, row, h, _ => absurd h (Nat.not_lt_zero _)
  | n + 1, k, row, h, hk => by
    obtain ⟨j, e, pa⟩ := ht.row k row hk
    obtain ⟨x, hx⟩ : ∃ x, p.2.2[j]? = some x := ⟨_, List.getElem?_eq_getElem (by rw [pok.rules]; exact (List.getElem?_eq_some_iff.1 pa.tab).1)⟩
    have rp := pok.rule j e x pa.tab hx
    have er := ruleP_at ok pa.tab hx
    rw [pa.nm] at er
    have hv := foldV_at (d := ([] : List Str)) (f := printF w p) ht.idx hk
    have pat : ∀ (u : Nat) (m : Int), row.2[u]? = some m → ∃ q ts, t[m.toNat]? = some q ∧ (dueOf w e)[u]? = some (kindAt w q.1) ∧ (prints w p t)[m.toNat]? = some ts ∧ (ts.length : Int) = cntAt p.2.1 (kindAt w q.1) ∧ ((Lp ts : Nat) : Int) ≤ 48 * szT t m.toNat := fun u m hu => by
      obtain ⟨m0, m1, q, hq, hd⟩ := pa.idx u m hu
      obtain ⟨ts, a, b, c⟩ := print_at ok pok ht n m.toNat q (by omega) hq
      exact ⟨q, ts, hq, hd, a, b, c⟩
    obtain ⟨pq, epq⟩ : ∃ pq : List (List Str), pq = row.2.map fun n => (prints w p t).getD n.toNat [] := ⟨_, rfl⟩
    replace hv : (prints w p t)[k]? = some (printF w p row.1 pq) := by rw [epq]; exact hv
    refine ⟨printF w p row.1 pq, hv, ?_, ?_⟩
    · unfold printF
      rw [List.length_map, er, rp.len, pa.kind]
    · have hb : ∀ b, Sum.inr b ∈ x.flatten → BxAt pq b := fun b hbm => by
        rw [epq]
        obtain ⟨⟨b0, b1⟩, b2, b3⟩ := show BxIn p.2.1 (dueOf w e) b from rp.item _ hbm
        have l1 : b.1.toNat < row.2.length := by rw [pa.len]; omega
        have em := List.getElem?_eq_getElem l1
        obtain ⟨q, ts, _, hd, hts, hl, _⟩ := pat _ _ em
        refine ⟨⟨b0, by rw [List.length_map]; omega⟩, b2, ?_⟩
        rw [List.getD_eq_getElem?_getD, hd] at b3
        rw [List.getD_eq_getElem?_getD, List.getElem?_map, em]
        show b.2 < (((prints w p t).getD (row.2[b.1.toNat]).toNat []).length : Nat)
        rw [List.getD_eq_getElem?_getD, hts]
        show b.2 < (ts.length : Nat)
        rw [hl]
        exact b3
      have z := rows_sum rp hb
      unfold printF
      rw [er]
      have s : (((pq.map Lp).sum : Nat) : Int) ≤ 48 * (row.2.map fun n => szT t n.toNat).sum := by
        rw [epq, List.map_map]
        have : ∀ l : List Int, (∀ m ∈ l, m ∈ row.2) → (((l.map (Lp ∘ fun n => (prints w p t).getD n.toNat [])).sum : Nat) : Int) ≤ 48 * (l.map fun n => szT t n.toNat).sum := by
          intro l
          induction l with
          | nil => intro _; exact Int.le_refl _
          | cons m l ih =>
            intro hm
            have a := ih fun y hy => hm y (List.mem_cons_of_mem _ hy)
            obtain ⟨u, hu⟩ := List.mem_iff_getElem?.1 (hm m List.mem_cons_self)
            obtain ⟨_, ts, _, _, hts, _, hl⟩ := pat u m hu
            have em : (Lp ∘ fun n => (prints w p t).getD n.toNat []) m = Lp ts := by
              show Lp ((prints w p t).getD m.toNat []) = _
              rw [List.getD_eq_getElem?_getD, hts]
              rfl
            rw [List.map_cons, List.map_cons, List.sum_cons, List.sum_cons, em]
            omega
        exact this row.2 fun m hm => hm
      rw [szT_at ht.idx hk]
      omega
theorem len_le_Lp {ts : List Str} {s : Str} (h : s ∈ ts) : s.length ≤ Lp ts := by
  unfold Lp
  exact mem_le_sum (List.mem_map.2 ⟨s, h, rfl⟩)
theorem pr_fit {w : Wd} {p : Prn} {t : Tr} (ok : WoodOk w) (pok : PrOk w p) (ht : TrW w t) (hs : ∀ k, k < t.length → szT t k ≤ 2000) : PrFit w p t := fun i row hi => by
  obtain ⟨j, e, pa⟩ := ht.row i row hi
  have li := (List.getElem?_eq_some_iff.1 hi).1
  obtain ⟨x, hx⟩ : ∃ x, p.2.2[j]? = some x := ⟨_, List.getElem?_eq_getElem (by rw [pok.rules]; exact (List.getElem?_eq_some_iff.1 pa.tab).1)⟩
  have rp := pok.rule j e x pa.tab hx
  have er := ruleP_at ok pa.tab hx
  rw [pa.nm] at er
  have lt : (t.take i).length = i := by rw [List.length_take]; omega
  have pp : partsP (prints w p (t.take i)) row.2 = row.2.map fun n => (prints w p t).getD n.toNat [] := by
    unfold partsP
    refine List.map_congr_left fun n hn => ?_
    have := (ht.idx i row hi).2 n hn
    unfold prints
    rw [List.getD_eq_getElem?_getD, List.getD_eq_getElem?_getD, ← foldV_pre i (Nat.le_of_lt li), List.getElem?_take, if_pos (by omega)]
  have lenx : x.length ≤ 2 := by
    have a := rp.len
    have b : cntAt p.2.1 (e.1 : Nat) ≤ 2 := by
      unfold cntAt
      rw [List.getD_eq_getElem?_getD]
      cases c : p.2.1[((e.1 : Nat) : Int).toNat]? with
      | none => decide
      | some y => exact (pok.count y (List.mem_of_getElem? c)).2
    omega
  have mem6 : ∀ r ∈ x, r.length ≤ 6 := fun r hr => by
    obtain ⟨q, hq⟩ := List.mem_iff_getElem?.1 hr
    have := row_leF hq
    have := rp.many
    omega
  refine ⟨⟨j, e, pa.tab, pa.nm, by rw [er]; exact hx⟩, fun n hn => ?_, pa.two, by rw [er]; omega, fun r hr => ?_, fun r hr => ?_⟩
  · have := (ht.idx i row hi).2 n hn
    rw [prints_len, lt]
    exact this
  · rw [er] at hr
    refine ⟨mem6 r hr, fun b hbm => ?_⟩
    obtain ⟨⟨b0, b1⟩, b2, b3⟩ := show BxIn p.2.1 (dueOf w e) b from rp.item _ (List.mem_flatten.2 ⟨r, hr, hbm⟩)
    have l1 : b.1.toNat < row.2.length := by rw [pa.len]; omega
    have em := List.getElem?_eq_getElem l1
    obtain ⟨m0, m1, q, hq, hd⟩ := pa.idx _ _ em
    obtain ⟨ts, hts, hl, _⟩ := print_at ok pok ht t.length (row.2[b.1.toNat]).toNat q (by have := (List.getElem?_eq_some_iff.1 hq).1; exact this) hq
    rw [pp]
    refine ⟨⟨b0, by rw [List.length_map]; omega⟩, b2, ?_⟩
    rw [List.getD_eq_getElem?_getD, hd] at b3
    rw [List.getD_eq_getElem?_getD, List.getElem?_map, em]
    show b.2 < (((prints w p t).getD (row.2[b.1.toNat]).toNat []).length : Nat)
    rw [List.getD_eq_getElem?_getD, hts]
    show b.2 < (ts.length : Nat)
    rw [hl]
    exact b3
  · obtain ⟨ts, hts, _, hl⟩ := print_at ok pok ht t.length i row li hi
    have hv := foldV_at (d := ([] : List Str)) (f := printF w p) ht.idx hi
    replace hts : (foldV [] (printF w p) t)[i]? = some ts := hts
    rw [hv] at hts
    cases hts
    have z := len_le_Lp (ts := printF w p row.1 (row.2.map fun n => (prints w p t).getD n.toNat [])) (s := joinRow (partsP (prints w p (t.take i)) row.2) r) (by
      rw [pp]
      exact List.mem_map.2 ⟨r, hr, rfl⟩)
    have := hs i li
    replace hl : ((Lp (printF w p row.1 (row.2.map fun n => (prints w p t).getD n.toNat [])) : Nat) : Int) ≤ 48 * szT t i := hl
    omega
def spJoined : Sp := fun vs H Q _ => ∃ (ra pa : Addr) (r : List Itm) (parts : List (List Str)) (pvs : List V), vs = [.ref ra, .ref pa] ∧ Rep H (rwD r) (.ref ra) ∧ H pa = some (.lst pvs) ∧ Reps H (parts.map txsD) pvs ∧ parts.length ≤ 100 ∧ r.length ≤ 6 ∧ (∀ b, Sum.inr b ∈ r → BxAt parts b) ∧ (joinRow parts r).length ≤ 1000000 ∧
  ∀ H', Ex H H' → Q (.str (joinRow parts r)) H'
def spPrintedAt : Sp := fun vs H Q _ => ∃ (w : Wd) (p : Prn) (t : Tr) (wv pv tv : V), vs = [wv, pv, tv] ∧ Rep H (woodD w) wv ∧ WoodOk w ∧ Rep H (prD p) pv ∧ p.2.2.length = (tabFrom 0 w).length ∧ Rep H (treeD t) tv ∧ 0 < t.length ∧ t.length ≤ 200 ∧ PrFit w p t ∧
  ∀ v H', Ex H H' → Rep H' (txsD ((prints w p t).getD (t.length - 1) [])) v → Q v H'
def spPrints : Sp := fun vs H Q _ => ∃ (w : Wd) (p : Prn) (t : Tr) (wv pv tv : V), vs = [wv, pv, tv] ∧ Rep H (woodD w) wv ∧ WoodOk w ∧ Rep H (prD p) pv ∧ p.2.2.length = (tabFrom 0 w).length ∧ Rep H (treeD t) tv ∧ t.length ≤ 200 ∧ PrFit w p t ∧
  ∀ l vs H', H l = none → Ex H H' → H' l = some (.lst vs) → Reps H' ((prints w p t).map txsD) vs → Q (.ref l) H'
def spSizeT : Sp := fun vs H Q _ => ∃ (t : Tr) (tv : V), vs = [tv] ∧ Rep H (treeD t) tv ∧ 0 < t.length ∧ t.length ≤ 200 ∧ TrIdx t ∧ ∀ H', Ex H H' → Q (.int (szT t (t.length - 1))) H'
def spSomeTree2 : Sp := fun vs H Q _ => ∃ (p : Addr) (w : Wd) (v : V), vs = [.ref p, v] ∧ Box H p ∧ Rep H (woodD w) v ∧ WoodOk w ∧
  ∀ (t : Tr) (u : V) (H' : Hp), t.length ≤ 60 → goTr w [] t = true → (∀ r ∈ t, TextOk r.1 ∧ r.2.length ≤ 2) → (∀ k, k < t.length → szT t k ≤ 2000) → Rep H' (treeD t) u → But p H H' → Box H' p → Q u H'
end Bk

set_option Elab.async false
/-! Bk44: joining sign by sign; the plain tree's printing. -/
namespace Bk
open PySem PySem.Spec PyProof.Rows L2
theorem joinRow_snoc (parts : List (List Str)) (r : List Itm) (m : Itm) : joinRow parts (r ++ [m]) = joinRow parts r ++ joinIt parts m := by
  apply str_ext
  rw [app_list]
  unfold joinRow
  rw [joinE, joinE, List.map_append, List.map_append, List.flatten_append]
  simp
theorem joinRow_nil (parts : List (List Str)) : joinRow parts [] = "" := by
  apply str_ext
  unfold joinRow
  rw [joinE]
  rfl
theorem joinRow_le {parts : List (List Str)} {r : List Itm} {k : Nat} {m : Itm} (h : r[k]? = some m) : (joinRow parts (r.take k)).length + (joinIt parts m).length ≤ (joinRow parts r).length := by
  rw [← app_len, ← joinRow_snoc, ← take_at h, join_sumP, join_sumP]
  have e := congrArg (fun l => (List.map (fun i => (joinIt parts i).length) l).sum) (List.take_append_drop (k + 1) r)
  replace e : (List.map (fun i => (joinIt parts i).length) (r.take (k + 1) ++ r.drop (k + 1))).sum = (r.map fun i => (joinIt parts i).length).sum := e
  rw [List.map_append, List.sum_append] at e
  omega
theorem joinIt_le {parts : List (List Str)} {r : List Itm} {m : Itm} (h : m ∈ r) : (joinIt parts m).length ≤ (joinRow parts r).length := by
  obtain ⟨k, hk⟩ := List.mem_iff_getElem?.1 h
  have := joinRow_le (parts := parts) hk
  omega
theorem joinE_len {ss : List Str} : (Txt.join "" ss).length = (ss.map (·.length)).sum := by
  rw [str_len, joinE, List.length_flatten, List.map_map]
  congr 1
theorem pr_at {H : Hp} {p : Prn} {v : V} (h : Rep H (prD p) v) : ∃ a c b xs, v = .ref a ∧ H a = some (.tup [.str p.1, .ref c, .ref b]) ∧ H c = some (.tup (p.2.1.map V.int)) ∧ H b = some (.tup xs) ∧ Reps H (p.2.2.map rpD) xs := by
  obtain ⟨a, ys, rfl, ha, rs⟩ := Rep.tupI (show Rep H (.tup [.str p.1, .tup (p.2.1.map D.int), .tup (p.2.2.map rpD)]) v from h)
  obtain ⟨x, r, rfl, hx, rs⟩ := rs
  obtain ⟨y, r, rfl, hy, rs⟩ := rs
  obtain ⟨z, r, rfl, hz, rs⟩ := rs
  cases (show r = [] from rs)
  cases hx.strI
  obtain ⟨c, zs, rfl, hc, rc⟩ := Rep.tupI hy
  obtain ⟨b, xs, rfl, hb, rb⟩ := Rep.tupI hz
  rw [rc.ints] at hc
  exact ⟨a, c, b, xs, rfl, ha, hc, hb, rb⟩
theorem acc_mapS {α : Type} {acc : List V} {xs : List α} {f : α → Str} (hl : acc.length = xs.length) (h : ∀ (j : Nat) (v : V), acc[j]? = some v → ∃ x, xs[j]? = some x ∧ v = .str (f x)) : acc = (xs.map f).map V.str := by
  rw [List.map_map]
  exact acc_map (f := V.str ∘ f) hl h
theorem acc_mapN {α : Type} {acc : List V} {xs : List α} {f : α → Int} (hl : acc.length = xs.length) (h : ∀ (j : Nat) (v : V), acc[j]? = some v → ∃ x, xs[j]? = some x ∧ v = .int (f x)) : acc = (xs.map f).map V.int := by
  rw [List.map_map]
  exact acc_map (f := V.int ∘ f) hl h
theorem kit_ss : kitB "str" "str" = some true := by decide +kernel
theorem kit_ts : kitB "tuple" "str" = some false := by decide +kernel
theorem kit_st : kitB "str" "tuple" = some false := by decide +kernel
theorem kit_tt : kitB "tuple" "tuple" = some true := by decide +kernel
theorem reps_strs {H : Hp} : ∀ ss : List Str, Reps H (ss.map D.str) (ss.map V.str)
  | [] => by simp only [List.map, Reps]
  | s :: ss => ⟨_, _, rfl, Rep.s s, reps_strs ss⟩
/-! ### signs of what is printed -/
def SigOk (s : Str) : Prop := ∀ c ∈ s.cps.toList, c < 0x110000
theorem print_low {w : Wd} {p : Prn} {t : Tr} (ok : WoodOk w) (pok : PrOk w p) (ht : TrW w t) : ∀ (n k : Nat) (ts : List Str), k < n → (prints w p t)[k]? = some ts → ∀ s ∈ ts, SigOk s
  | 0, k, ts, h, _ => absurd h (Nat.not_lt_zero _)
  | n + 1, k, ts, h, hk => by
    have lk : k < t.length := by
      have := (List.getElem?_eq_some_iff.1 hk).1
      rw [prints_len] at this
      exact this
    obtain ⟨row, er⟩ : ∃ row, t[k]? = some row := ⟨_, List.getElem?_eq_getElem lk⟩
    obtain ⟨j, e, pa⟩ := ht.row k row er
    obtain ⟨x, hx⟩ : ∃ x, p.2.2[j]? = some x := ⟨_, List.getElem?_eq_getElem (by rw [pok.rules]; exact (List.getElem?_eq_some_iff.1 pa.tab).1)⟩
    have rp := pok.rule j e x pa.tab hx
    have ex := ruleP_at ok pa.tab hx
    rw [pa.nm] at ex
    have hv := foldV_at (d := ([] : List Str)) (f := printF w p) ht.idx er
    replace hk : (foldV [] (printF w p) t)[k]? = some ts := hk
    rw [hv] at hk
    cases hk
    intro s hs c hc
    unfold printF at hs
    rw [ex] at hs
    obtain ⟨r, hr, rfl⟩ := List.mem_map.1 hs
    unfold joinRow at hc
    rw [joinE, List.map_map] at hc
    obtain ⟨l, hl, hcl⟩ := List.mem_flatten.1 hc
    obtain ⟨i, hi, rfl⟩ := List.mem_map.1 hl
    have iok := rp.item i (List.mem_flatten.2 ⟨r, hr, hi⟩)
    cases i with
    | inl y =>
      have := pok.lets.low c (iok.2 c hcl)
      omega
    | inr b =>
      obtain ⟨⟨b0, b1⟩, b2, b3⟩ := show BxIn p.2.1 (dueOf w e) b from iok
      have l1 : b.1.toNat < row.2.length := by rw [pa.len]; omega
      have em := List.getElem?_eq_getElem l1
      obtain ⟨m0, m1, q, hq, hd⟩ := pa.idx _ _ em
      replace hcl : c ∈ (((row.2.map fun n => (prints w p t).getD n.toNat []).getD b.1.toNat []).getD b.2.toNat "").cps.toList := hcl
      rw [show (row.2.map fun n => (prints w p t).getD n.toNat []).getD b.1.toNat [] = (prints w p t).getD (row.2[b.1.toNat]).toNat [] by rw [List.getD_eq_getElem?_getD, List.getElem?_map, em]; rfl] at hcl
      have lq : (row.2[b.1.toNat]).toNat < (prints w p t).length := by rw [prints_len]; exact (List.getElem?_eq_some_iff.1 hq).1
      have eq := List.getElem?_eq_getElem lq
      rw [List.getD_eq_getElem?_getD (l := prints w p t), eq, Option.getD_some] at hcl
      have ih := print_low ok pok ht n _ _ (by omega) eq
      rw [List.getD_eq_getElem?_getD] at hcl
      cases es : ((prints w p t)[(row.2[b.1.toNat]).toNat])[b.2.toNat]? with
      | none =>
        rw [es] at hcl
        cases hcl
      | some y =>
        rw [es] at hcl
        exact ih y (List.mem_of_getElem? es) c hcl
/-! ### the plain tree's end -/
theorem runP_own {t : Tr} : ∀ (n k : Nat), k < (runP t n).rows.length → ∃ a, (a, k) ∈ (runP t n).own
  | 0, k, h => absurd h (Nat.not_lt_zero _)
  | n + 1, k, h => by
    have ih := runP_own (t := t) n
    have e : runP t (n + 1) = stepP t (runP t n) := rfl
    rw [e] at h ⊢
    generalize runP t n = s at ih h
    obtain ⟨left, rows, own⟩ := s
    cases left with
    | nil => exact ih k h
    | cons p left =>
      obtain ⟨a, b⟩ := p
      cases c : ownAt own a with
      | some kk =>
        rw [stepP_there c] at h ⊢
        exact ih k h
      | none =>
        cases b with
        | false =>
          rw [stepP_open c] at h ⊢
          exact ih k h
        | true =>
          cases cm : markIx rows (markOf t own a) with
          | some q =>
            rw [stepP_old c cm] at h ⊢
            obtain ⟨x, hx⟩ := ih k h
            exact ⟨x, List.mem_append_left _ hx⟩
          | none =>
            rw [stepP_new c cm] at h ⊢
            by_cases ck : k < rows.length
            · obtain ⟨x, hx⟩ := ih k ck
              exact ⟨x, List.mem_append_left _ hx⟩
            · replace h : k < (rows ++ [markOf t own a]).length := h
              rw [List.length_append, List.length_singleton] at h
              have : k = rows.length := by omega
              subst this
              exact ⟨a, List.mem_append_right _ (List.mem_singleton.2 rfl)⟩
structure PlEnd (t r : Tr) : Prop where
  pos : 0 < r.length
  le : r.length ≤ t.length
  idx : TrIdx r
  last : ∀ (β : Type) (d : β) (f : Str → List β → β), (foldV d f r)[r.length - 1]? = (foldV d f t)[t.length - 1]?
  each : ∀ k, k < r.length → ∃ a, a < t.length ∧ ∀ (β : Type) (d : β) (f : Str → List β → β), (foldV d f r)[k]? = (foldV d f t)[a]?
theorem PInv.fin {t : Tr} {n : Nat} (h : PInv t (runP t n)) (hl : (runP t n).left = []) : PlEnd t (runP t n).rows := by
  rcases h.base with ⟨pre, b, e, _⟩ | ⟨_, k, hk, e⟩
  · rw [hl] at e
    cases pre <;> cases e
  · have hm := ownAt_mem hk
    refine ⟨by omega, h.sizes.2, h.idx, fun β d f => ?_, fun j hj => ?_⟩
    · have := h.same _ hm β d f
      rw [← e, Nat.add_sub_cancel]
      exact this
    · obtain ⟨a, ha⟩ := runP_own n j hj
      exact ⟨a, (h.ownl _ ha).1, fun β d f => h.same _ ha β d f⟩
theorem PlEnd.size {t r : Tr} (h : PlEnd t r) {k : Nat} (hk : k < r.length) : ∃ a, a < t.length ∧ szT r k = szT t a := by
  obtain ⟨a, la, e⟩ := h.each k hk
  refine ⟨a, la, ?_⟩
  unfold szT
  rw [List.getD_eq_getElem?_getD, List.getD_eq_getElem?_getD, e]
theorem PlEnd.prints {t r : Tr} (h : PlEnd t r) (w : Wd) (p : Prn) : (prints w p r).getD (r.length - 1) [] = (prints w p t).getD (t.length - 1) [] := by
  rw [List.getD_eq_getElem?_getD, List.getD_eq_getElem?_getD]
  exact congrArg (Option.getD · []) (h.last _ _ _)
end Bk

set_option Elab.async false
/-! Bk45: dict(zip(a, b, strict=True)). -/
namespace Bk
open PySem PySem.Spec PyProof.Rows L2
abbrev IsZipHS (h : Heap) (z TI TO T : Addr) (f : Bool) : Prop :=
  h.get? z = some { cls := .type "zip", dict := none, data := .fields #[rawInt T, .bool f, .bool true, .ref TI, .ref TO], slots := #[] }
section
variable {prog : Program} {w : World} {A : Around} {E : Value → Shared → Prop} {s : Shared}
theorem heldZS {z TI TO T : Addr} {f : Bool} {oT : Obj} {Q : Bool → Shared → Prop} (hz : IsZipHS s.heap z TI TO T f) (hT : s.heap.get? T = some oT)
    (h : ∀ h', IsZipHS h' z TI TO T true → Heap.SameBut z s.heap h' → Q false { s with heap := h' }) : wpAny (model prog w) A (Builtin.SmallTypes.ownedTupleIsFree (.ref z)) Q E s := by
  unfold Builtin.SmallTypes.ownedTupleIsFree
  refine wpAny_bind (wpAny_field hz rfl (x := rawInt T) rfl ?_)
  show wpAny _ _ (loadIfAlive ((T : Int).toNat) >>= _) _ _ _
  rw [Int.toNat_natCast]
  refine wpAny_bind (PySem.W.kdx_alive hT ?_)
  simp only [Option.isNone_some, Bool.false_eq_true, if_false]
  refine wpAny_bind (wpAny_field hz rfl (x := .bool f) rfl ?_)
  cases f with
  | true =>
    rw [if_neg (show ¬ ((Value.bool true != Value.bool true) = true) from Bool.false_ne_true)]
    exact wpAny_pure (h s.heap hz (Heap.SameBut.refl _ _))
  | false =>
    rw [if_pos (show (Value.bool false != Value.bool true) = true from rfl)]
    exact wpAny_bind (wpAny_setField_rec hz (by simp) fun h₁ hz₁ hs₁ => wpAny_pure (h h₁ hz₁ hs₁))
theorem heldS_item {k1 k2 : Bool} {z TI TO T i1 i2 l1 l2 : Addr} {f : Bool} {oT : Obj} {i : Nat} {xs ys : Array Value} {x y : Value} {Q : Value → Shared → Prop} (D : ZipApart z TI TO i1 i2 l1 l2)
    (hz : IsZipHS s.heap z TI TO T f) (hT : s.heap.get? T = some oT) (hTI : IsPair s.heap TI (.ref i1) (.ref i2)) (h1 : SIt s.heap k1 i1 l1 i xs) (h2 : SIt s.heap k2 i2 l2 i ys) (hx : xs[i]? = some x) (hy : ys[i]? = some y)
    (hQ : ∀ h', IsZipHS h' z TI TO T true → SIt h' k1 i1 l1 (i + 1) xs → SIt h' k2 i2 l2 (i + 1) ys → IsPair h' s.heap.objs.size x y → h'.objs.size = s.heap.objs.size + 1 →
      (∀ c o, c ≠ z → c ≠ i1 → c ≠ i2 → s.heap.get? c = some o → h'.get? c = some o) → Q (.ref s.heap.objs.size) { s with heap := h' }) :
    wpAny (model prog w) A (Builtin.«zip.__next__» ⟨[.ref z], []⟩) (fun fin s' => ∃ v, fin = .done (.ret v) ∧ Q v s') E s := by
  show wpAny _ _ (field (.ref z) 2 >>= _) _ _ _
  refine wpAny_bind (wpAny_field hz rfl (x := .bool true) rfl ?_)
  show wpAny _ _ (field (.ref z) 3 >>= _) _ _ _
  refine wpAny_bind (wpAny_field hz rfl (x := .ref TI) rfl ?_)
  refine wpAny_bind (wpAny_seqItems hTI rfl ?_)
  show wpAny _ _ (Builtin.SmallTypes.ownedTupleIsFree (.ref z) >>= _) _ _ _
  refine wpAny_bind (heldZS hz hT fun g1 z1 b1 => ?_)
  simp only [Bool.false_eq_true, if_false]
  refine wpAny_bind ?_
  rw [← Array.forIn_toList]
  simp only [List.forIn_cons, List.forIn_nil]
  refine wpAny_bind (wpAny_bind (wpAny_holding ?_))
  show wpAny _ _ (Builtin.SmallTypes.nextOrEnd (.ref i1)) _ _ _
  have p1 : SIt g1 k1 i1 l1 i xs := h1.keep (fun o e => b1.extBut _ _ D.i1z e) fun o e => b1.extBut _ _ D.l1z e
  refine oe_item (s := { s with heap := g1 }) p1 D.l1i1 hx fun g2 q1 b2 => ?_
  refine wpAny_pure ?_
  refine wpAny_bind (wpAny_bind (wpAny_holding ?_))
  show wpAny _ _ (Builtin.SmallTypes.nextOrEnd (.ref i2)) _ _ _
  have p2 : SIt g2 k2 i2 l2 i ys := (h2.keep (fun o e => b1.extBut _ _ D.i2z e) fun o e => b1.extBut _ _ D.l2z e).keep (fun o e => b2.extBut _ _ D.i12.symm e) fun o e => b2.extBut _ _ D.l2i1 e
  refine oe_item (s := { s with heap := g2 }) p2 D.l2i2 hy fun g3 q2 b3 => ?_
  refine wpAny_pure (wpAny_pure ?_)
  show wpAny _ _ (newTuple [x, y] >>= _) _ _ _
  refine wpAny_bind (wpAny_newTuple ?_)
  have hsz : g3.objs.size = s.heap.objs.size := by rw [b3.1, b2.1, b1.1]
  have z3 : IsZipHS g3 z TI TO T true := b3.extBut _ _ D.i2z.symm (b2.extBut _ _ D.i1z.symm z1)
  have hk : ∀ c o, c ≠ z → c ≠ i1 → c ≠ i2 → s.heap.get? c = some o → g3.get? c = some o := fun c o c1 c2 c3 e => b3.extBut _ _ c3 (b2.extBut _ _ c2 (b1.extBut _ _ c1 e))
  have q3 : SIt g3 k1 i1 l1 (i + 1) xs := q1.keep (fun o e => b3.extBut _ _ D.i12 e) fun o e => b3.extBut _ _ D.l1i2 e
  refine wpAny_pure ⟨_, rfl, ?_⟩
  show Q (.ref g3.objs.size) _
  have hp : IsPair (g3.push { cls := .type "tuple", data := .seq #[x, y] }) g3.objs.size x y := Heap.get?_push_size _ rfl
  have z4 : (g3.push { cls := .type "tuple", data := .seq #[x, y] }).objs.size = g3.objs.size + 1 := Heap.size_push ..
  rw [hsz] at hp z4 ⊢
  exact hQ _ (Heap.get?_push_of_some _ z3) (q3.keep (fun o e => Heap.get?_push_of_some _ e) fun o e => Heap.get?_push_of_some _ e) (q2.keep (fun o e => Heap.get?_push_of_some _ e) fun o e => Heap.get?_push_of_some _ e) hp z4
    fun c o c1 c2 c3 e => Heap.get?_push_of_some _ (hk c o c1 c2 c3 e)
theorem heldS_end {k1 k2 : Bool} {z TI TO T i1 i2 l1 l2 : Addr} {f : Bool} {oT : Obj} {i : Nat} {xs ys : Array Value} {Q : Fin → Shared → Prop} (hh : A.handled = none) (D : ZipApart z TI TO i1 i2 l1 l2)
    (hz : IsZipHS s.heap z TI TO T f) (hT : s.heap.get? T = some oT) (hTI : IsPair s.heap TI (.ref i1) (.ref i2)) (h1 : SIt s.heap k1 i1 l1 i xs) (h2 : SIt s.heap k2 i2 l2 i ys) (hx : xs[i]? = none) (hy : ys[i]? = none)
    (hE : ∀ h' e, (∀ c o, c ≠ z → c ≠ i1 → c ≠ i2 → s.heap.get? c = some o → h'.get? c = some o) → (∃ o, h'.get? e = some o ∧ o.cls = .type "StopIteration") → E (.ref e) { s with heap := h' }) :
    wpAny (model prog w) A (Builtin.«zip.__next__» ⟨[.ref z], []⟩) Q E s := by
  show wpAny _ _ (field (.ref z) 2 >>= _) _ _ _
  refine wpAny_bind (wpAny_field hz rfl (x := .bool true) rfl ?_)
  show wpAny _ _ (field (.ref z) 3 >>= _) _ _ _
  refine wpAny_bind (wpAny_field hz rfl (x := .ref TI) rfl ?_)
  refine wpAny_bind (wpAny_seqItems hTI rfl ?_)
  show wpAny _ _ (Builtin.SmallTypes.ownedTupleIsFree (.ref z) >>= _) _ _ _
  refine wpAny_bind (heldZS hz hT fun g1 z1 b1 => ?_)
  simp only [Bool.false_eq_true, if_false]
  refine wpAny_bind ?_
  rw [← Array.forIn_toList]
  simp only [List.forIn_cons, List.forIn_nil]
  refine wpAny_bind (wpAny_bind (wpAny_holding ?_))
  show wpAny _ _ (Builtin.SmallTypes.nextOrEnd (.ref i1)) _ _ _
  have p1 : SIt g1 k1 i1 l1 i xs := h1.keep (fun o e => b1.extBut _ _ D.i1z e) fun o e => b1.extBut _ _ D.l1z e
  refine oe_end (s := { s with heap := g1 }) hh p1 hx fun g2 b2 => ?_
  have p2 : SIt g2 k2 i2 l2 i ys := (h2.keep (fun o e => b1.extBut _ _ D.i2z e) fun o e => b1.extBut _ _ D.l2z e).keep (fun o e => b2 _ _ D.i12.symm e) fun o e => b2 _ _ D.l2i1 e
  refine wpAny_bind ?_
  show wpAny _ _ (forIn (([Value.ref i1, Value.ref i2].drop 1).zipIdx 1) _ _ >>= _) _ _ _
  refine wpAny_bind ?_
  simp only [List.drop_succ_cons, List.drop_zero, List.zipIdx_cons, List.zipIdx_nil, List.forIn_cons, List.forIn_nil]
  refine wpAny_bind (wpAny_bind (oe_end (s := { s with heap := g2 }) hh p2 hy fun g4 hs4 => ?_))
  simp only [Option.isSome_none, Bool.false_eq_true, if_false]
  refine wpAny_pure (wpAny_pure (wpAny_bind (wpAny_rule ?_)))
  show wpAny _ _ (newExc (.type "StopIteration") [] >>= _) _ _ _
  refine wpAny_bind ?_
  simp only [newExc, newTuple]
  refine wpAny_bind (wpAny_newObj_type ?_ (by size_fits))
  refine wpAny_bind (m := firstArgMember _ _) (wpAny_of_eq (a := Value.none) (by first | rfl | (simp only [firstArgMember]; rfl)) ?_)
  refine wpAny_newObj_type ?_ (by size_fits)
  simp only [raiseNew]
  refine wpAny_bind (wpAny_handled ?_)
  first | rw [show A.in1.handled = none from hh] | rw [hh]
  refine wpAny_bind (wpAny_pure (wpAny_throw ?_))
  refine hE _ _ (fun c o c1 c2 c3 e => Heap.get?_push_of_some _ (Heap.get?_push_of_some _ (hs4 _ _ c3 (b2 _ _ c2 (b1.extBut _ _ c1 e))))) ⟨_, Heap.get?_push_size _ rfl, rfl⟩
theorem heldS_nextItem {k1 k2 : Bool} {z TI TO T i1 i2 l1 l2 : Addr} {f : Bool} {oT : Obj} {i : Nat} {xs ys : Array Value} {x y : Value} {Q : Option Value → Shared → Prop} (D : ZipApart z TI TO i1 i2 l1 l2)
    (hz : IsZipHS s.heap z TI TO T f) (hT : s.heap.get? T = some oT) (hTI : IsPair s.heap TI (.ref i1) (.ref i2)) (h1 : SIt s.heap k1 i1 l1 i xs) (h2 : SIt s.heap k2 i2 l2 i ys) (hx : xs[i]? = some x) (hy : ys[i]? = some y)
    (hQ : ∀ h', IsZipHS h' z TI TO T true → SIt h' k1 i1 l1 (i + 1) xs → SIt h' k2 i2 l2 (i + 1) ys → IsPair h' s.heap.objs.size x y → h'.objs.size = s.heap.objs.size + 1 →
      (∀ c o, c ≠ z → c ≠ i1 → c ≠ i2 → s.heap.get? c = some o → h'.get? c = some o) → Q (some (.ref s.heap.objs.size)) { s with heap := h' }) : wpAny (model prog w) A (pyNext (.ref z)) Q E s := by
  have hTy : s.TypeIs (.ref z) "zip" := ⟨_, hz, rfl⟩
  unfold pyNext
  exact wpAny_bind (wpAny_attempt (wpAny_callSpecial?_slot (name := Str.ofString "__next__") hTy F.slot_zip_next
    (wpAny_call_entry F.slot_zip_next hTy F.entry_zip_next (heldS_item D hz hT hTI h1 h2 hx hy fun h' a1 a2 a3 a4 a5 a6 => wpAny_pure (hQ h' a1 a2 a3 a4 a5 a6)) (F.args_zip_next_1 _))))
theorem heldS_nextEnd {k1 k2 : Bool} {z TI TO T i1 i2 l1 l2 : Addr} {f : Bool} {oT : Obj} {i : Nat} {xs ys : Array Value} {Q : Option Value → Shared → Prop} (hh : A.handled = none) (D : ZipApart z TI TO i1 i2 l1 l2)
    (hz : IsZipHS s.heap z TI TO T f) (hT : s.heap.get? T = some oT) (hTI : IsPair s.heap TI (.ref i1) (.ref i2)) (h1 : SIt s.heap k1 i1 l1 i xs) (h2 : SIt s.heap k2 i2 l2 i ys) (hx : xs[i]? = none) (hy : ys[i]? = none)
    (hQ : ∀ h', (∀ c o, c ≠ z → c ≠ i1 → c ≠ i2 → s.heap.get? c = some o → h'.get? c = some o) → Q none { s with heap := h' }) : wpAny (model prog w) A (pyNext (.ref z)) Q E s := by
  have hTy : s.TypeIs (.ref z) "zip" := ⟨_, hz, rfl⟩
  unfold pyNext
  refine wpAny_bind (wpAny_attempt (wpAny_callSpecial?_slot (name := Str.ofString "__next__") hTy F.slot_zip_next
    (wpAny_call_entry F.slot_zip_next hTy F.entry_zip_next (heldS_end hh D hz hT hTI h1 h2 hx hy fun h' e hk he => ?_) (F.args_zip_next_1 _))))
  obtain ⟨o, ho, hc⟩ := he
  refine wpAny_bind (wpAny_isInstance (T := "StopIteration") (b := true) ⟨o, ho, hc⟩ isSubtype_stop ?_)
  exact wpAny_pure (hQ _ hk)
end
section
variable {prog : Program} {w : World}
theorem zipS_miss {A : Around} {E : Value → Shared → Prop} {s : Shared} {z TI TO : Addr} {Q : Option Value → Shared → Prop} (hz : IsZipS s.heap z TI TO .none) (hA : A.handled = none)
    (h : ∀ h' tk, (∀ b o, s.heap.get? b = some o → h'.get? b = some o) → Q none { s with heap := h', toks := tk }) : wpAny (model prog w) A (getAttr? (.ref z) "keys") Q E s :=
  getAttrOr_miss_zip hz rfl rfl rfl zip_no_keys (by decide +kernel) hA h
theorem PairArg.zipS (k1 k2 : Bool) (z TI TO i1 i2 l1 l2 : Addr) (D : ZipApart z TI TO i1 i2 l1 l2) (xs ys : Array Value) (hl : xs.size = ys.size) :
    PairArg prog w "zip" z [z, TI, TO, i1, i2, l1, l2] [z, TO, i1, i2] xs.size (fun i k v => xs[i]? = some k ∧ ys[i]? = some v)
      (fun h => IsZipS h z TI TO .none ∧ IsPair h TI (.ref i1) (.ref i2) ∧ (∃ a b, IsPair h TO a b) ∧ SIt h k1 i1 l1 0 xs ∧ SIt h k2 i2 l2 0 ys) where
  type := fun s ok => ⟨_, ok.1, rfl⟩
  notDict := by decide
  keep := fun h h' ok hk => by
    obtain ⟨hz, hTI, ⟨a, b, hTO⟩, h1, h2⟩ := ok
    exact ⟨hk _ _ hz, hk _ _ hTI, ⟨a, b, hk _ _ hTO⟩, h1.keep (fun o e => hk _ o e) (fun o e => hk _ o e), h2.keep (fun o e => hk _ o e) (fun o e => hk _ o e)⟩
  there := fun h ok b hb => by
    obtain ⟨hz, hTI, ⟨a, c, hTO⟩, h1, h2⟩ := ok
    obtain ⟨o1, g1, _⟩ := h1.ki.get
    obtain ⟨o2, g2, _⟩ := h2.ki.get
    have q1 : ∃ o, h.get? l1 = some o := by
      cases k1 with
      | true => obtain ⟨_, ⟨o, e, _⟩⟩ := h1; exact ⟨o, e⟩
      | false => obtain ⟨_, ⟨o, e, _⟩⟩ := h1; exact ⟨o, e⟩
    have q2 : ∃ o, h.get? l2 = some o := by
      cases k2 with
      | true => obtain ⟨_, ⟨o, e, _⟩⟩ := h2; exact ⟨o, e⟩
      | false => obtain ⟨_, ⟨o, e, _⟩⟩ := h2; exact ⟨o, e⟩
    simp only [List.mem_cons, List.not_mem_nil, or_false] at hb
    rcases hb with rfl | rfl | rfl | rfl | rfl | rfl | rfl
    all_goals first | exact ⟨_, hz⟩ | exact ⟨_, hTI⟩ | exact ⟨_, hTO⟩ | exact ⟨_, g1⟩ | exact ⟨_, g2⟩ | exact q1 | exact q2
  sub := fun b hb => by simp at hb ⊢; rcases hb with rfl | rfl | rfl | rfl <;> simp
  noKeys := fun A s Q E hA ok h => zipS_miss ok.1 hA h
  iter := fun A s d Q E hA ok hd hdf h => by
    obtain ⟨hz, hTI, ⟨a, b, hTO⟩, h1, h2⟩ := ok
    simp only [List.mem_cons, List.not_mem_nil, or_false, not_or] at hdf
    obtain ⟨dz, dTI, dTO, di1, di2, dl1, dl2⟩ := hdf
    refine sz_iter hz (h z [z, TO, i1, i2] (fun i h => IsPair h TI (.ref i1) (.ref i2) ∧ SIt h k1 i1 l1 i xs ∧ SIt h k2 i2 l2 i ys ∧
      ((IsZipS h z TI TO .none ∧ ∃ a b, IsPair h TO a b) ∨ ∃ T f oT, IsZipHS h z TI TO T f ∧ h.get? T = some oT ∧ T ≠ z ∧ T ≠ i1 ∧ T ≠ i2 ∧ T ≠ d)) s.heap s.toks ?_
      ⟨hTI, h1, h2, .inl ⟨hz, a, b, hTO⟩⟩ (fun _ _ e => e) fun b hb => .inl hb)
    exact {
      off := fun hm => by
        simp only [List.mem_cons, List.not_mem_nil, or_false] at hm
        rcases hm with e | e | e | e
        · exact dz e
        · exact dTO e
        · exact di1 e
        · exact di2 e
      frame := fun i h₁ h₂ st hk => by
        obtain ⟨hTI, h1, h2, hz⟩ := st
        refine ⟨hk _ _ (Ne.symm dTI) hTI, h1.keep (fun o e => hk _ o (Ne.symm di1) e) (fun o e => hk _ o (Ne.symm dl1) e), h2.keep (fun o e => hk _ o (Ne.symm di2) e) (fun o e => hk _ o (Ne.symm dl2) e), ?_⟩
        rcases hz with ⟨hz, a, b, hTO⟩ | ⟨T, f, oT, hz, hT, r1, r2, r3, r4⟩
        · exact .inl ⟨hk _ _ (Ne.symm dz) hz, a, b, hk _ _ (Ne.symm dTO) hTO⟩
        · exact .inr ⟨T, f, oT, hk _ _ (Ne.symm dz) hz, hk _ _ r4 hT, r1, r2, r3, r4⟩
      item := fun i s₁ Q₁ E₁ hi st hds hQ => by
        obtain ⟨hTI, h1, h2, hz⟩ := st
        have ex := Array.getElem?_eq_getElem hi
        have ey := Array.getElem?_eq_getElem (xs := ys) (i := i) (by omega)
        have lt : ∀ {c o}, s₁.heap.get? c = some o → s₁.heap.objs.size ≠ c := fun e => Nat.ne_of_gt (Heap.lt_size e)
        have n1 : s₁.heap.objs.size ≠ i1 := let ⟨_, e, _⟩ := h1.ki.get; lt e
        have n2 : s₁.heap.objs.size ≠ i2 := let ⟨_, e, _⟩ := h2.ki.get; lt e
        rcases hz with ⟨hz, a, b, hTO⟩ | ⟨T, f, oT, hz, hT, r1, r2, r3, r4⟩
        · refine sz_nextItem D hz hTI hTO h1 h2 ex ey fun h' a1 a2 a3 a4 a5 a6 hk => ?_
          exact hQ s₁.heap.objs.size _ _ h' s₁.toks ⟨ex, ey⟩ (.inl ⟨_, a5, rfl, _, rfl⟩)
            ⟨hk _ _ D.TIz D.TITO D.TIi1 D.TIi2 hTI, a3, a4,
              .inr ⟨s₁.heap.objs.size, false, _, a1, a5, lt hz, n1, n2, Nat.ne_of_gt hds⟩⟩
            fun c o hc e => hk c o (fun x => hc (by simp [x])) (fun x => hc (by simp [x])) (fun x => hc (by simp [x])) (fun x => hc (by simp [x])) e
        · refine heldS_nextItem D hz hT hTI h1 h2 ex ey fun h' a1 a3 a4 a5 a6 hk => ?_
          exact hQ s₁.heap.objs.size _ _ h' s₁.toks ⟨ex, ey⟩ (.inl ⟨_, a5, rfl, _, rfl⟩)
            ⟨hk _ _ D.TIz D.TIi1 D.TIi2 hTI, a3, a4,
              .inr ⟨T, true, oT, a1, hk _ _ r1 r2 r3 hT, r1, r2, r3, r4⟩⟩
            fun c o hc e => hk c o (fun x => hc (by simp [x])) (fun x => hc (by simp [x])) (fun x => hc (by simp [x])) e
      done := fun s₁ Q₁ E₁ st hQ => by
        obtain ⟨hTI, h1, h2, hz⟩ := st
        have e1 : xs[xs.size]? = none := Array.getElem?_eq_none (Nat.le_refl _)
        have e2 : ys[xs.size]? = none := Array.getElem?_eq_none (by omega)
        rcases hz with ⟨hz, a, b, hTO⟩ | ⟨T, f, oT, hz, hT, r1, r2, r3, r4⟩
        · exact sz_nextEnd hA D hz hTI hTO h1 h2 e1 e2 fun h' hk => hQ h' s₁.toks fun c o hc e => hk c o (fun x => hc (by simp [x])) (fun x => hc (by simp [x])) (fun x => hc (by simp [x])) (fun x => hc (by simp [x])) e
        · exact heldS_nextEnd hA D hz hT hTI h1 h2 e1 e2 fun h' hk => hQ h' s₁.toks fun c o hc e => hk c o (fun x => hc (by simp [x])) (fun x => hc (by simp [x])) (fun x => hc (by simp [x])) e }
end
/-- the keys of xs with the items of ys -/
def uDZ (K : PySem.W.Frag) (ta : TA) : TE := fun σ H Q => ta σ H fun vs H1 => ∃ (k1 k2 : Bool) (a b : Addr) (ks : List L2.Key) (ys : List V), vs = [.ref a, .ref b] ∧ SqK K H1 k1 a (ks.map kV) ∧ SqK K H1 k2 b ys ∧ ks.length = ys.length ∧
  ∀ d, H1 d = none → Q (.ref d) (upd H1 d (.dK (mergeK [] (ks.zip ys))))
theorem kv_zip {X : Cx} : ∀ {ks : List L2.Key} {ys : List V} {us ws : List Value}, Vals (ks.map kV) us → Vals ys ws → ks.length = ys.length →
    ∃ prs : List (L2.Key × Value), KV (ks.zip ys) prs ∧ prs.length = us.length ∧ ∀ (i : Nat) (u v : Value), us[i]? = some u → ws[i]? = some v → ∃ k, prs[i]? = some (k, v) ∧ (mixKind X.prog X.w).is k u = true
  | [], [], us, ws, r1, r2, _ => by
    rw [List.map_nil] at r1
    cases r1
    exact ⟨[], .nil, rfl, fun i u v h => by simp at h⟩
  | [], _ :: _, _, _, _, _, h => nomatch h
  | _ :: _, [], _, _, _, _, h => nomatch h
  | k :: ks, y :: ys, us, ws, r1, r2, h => by
    rw [List.map_cons] at r1
    cases r1 with
    | cons h1 t1 =>
      cases r2 with
      | cons h2 t2 =>
        obtain ⟨prs, a, b, c⟩ := kv_zip (X := X) t1 t2 (by simpa using h)
        refine ⟨_ :: prs, .cons (b := (k, _)) ⟨rfl, h2⟩ a, by rw [List.length_cons, List.length_cons, b], fun i u v hu hv => ?_⟩
        cases i with
        | zero =>
          cases hu
          cases hv
          exact ⟨k, rfl, kV_is (P := X.prog) (w := X.w) h1⟩
        | succ i => exact c i u v hu hv
theorem pe_dictZipS {X : Cx} {e e2 e3 : Expr} {ta : TA} {p p2 pos pos2 kp : Pos} (hc : X.calm = true) (hg : Gl X "dict") (hm : X.mg "dict" = none) (hg2 : Gl X "zip") (hm2 : X.mg "zip" = none) (ha : PA X [e, e2] ta) (h3 : PE X e3 (tC (.bl true)))
    (hs : starEach [e, e2] X.env = (false, eval e X.env) :: starEach [e2] X.env := by rfl) (hpl : (backTo pos2 (starEach [e2] X.env)).any (·.1) = false := by rfl)
    (hs1 : starEach [.Call (.Name "zip" p2) [e, e2] [⟨some "strict", e3, kp⟩] pos2] X.env = (false, eval (.Call (.Name "zip" p2) [e, e2] [⟨some "strict", e3, kp⟩] pos2) X.env) :: starEach [] X.env := by rfl) :
    PE X (.Call (.Name "dict" p) [.Call (.Name "zip" p2) [e, e2] [⟨some "strict", e3, kp⟩] pos2] [] pos) (uDZ X.K ta) := by
  refine ⟨fun pins s σ H Q I h => ?_⟩
  refine wpAny_Call_Name_kw (ld_blt (u := .type "dict") I hg hm (by decide +kernel) ?_)
  refine PyProof.Rows.callWith_type1 ?_ hs1 rfl
  rw [hs1]
  refine Calls.spliced_cons ?_
  refine wpAny_Call_Name_kw (ld_blt I hg2 hm2 PyProof.Rows.boot_zip ?_)
  have hpl2 : (backTo pos2 (starEach [e, e2] X.env)).any (·.1) = false := by
    rw [hs]
    show (false || (backTo pos2 (starEach [e2] X.env)).any (·.1)) = false
    rw [hpl]
    rfl
  refine callWith_typeKw hpl2 rfl ?_
  have hx := ha.run pos2 pins s σ H _ I h
  rw [hs] at hx ⊢
  refine evalArgs_kwB rfl (thn hx fun us s1 ⟨vs, H1, I1, r1, q1⟩ => ?_)
  refine kws_cons (thn (h3.run pins s1 σ H1 (fun v H2 => v = .bl true ∧ H2 = H1) I1 ⟨rfl, rfl⟩) fun u3 s2 q3 => kws_nil ?_)
  obtain ⟨v3, H2, I2, r3, ev, eh⟩ := q3
  subst ev
  subst eh
  cases (show u3 = Value.bool true from r3)
  obtain ⟨k1, k2, a, b, ks, ys, ex, hqx, hqy, hl, q⟩ := q1
  subst ex
  cases r1 with
  | cons r rr =>
    cases rr with
    | cons r' rr =>
      cases rr
      cases r
      cases r'
      have fin : ∀ (i1 i2 : List Value), Vals (ks.map kV) i1 → Vals ys i2 → i1.length ≤ sizeLine → a < s2.heap.objs.size → b < s2.heap.objs.size → ∀ h', IsZipS h' (s2.heap.objs.size + 4) (s2.heap.objs.size + 2) (s2.heap.objs.size + 3) .none → IsPair h' (s2.heap.objs.size + 2) (.ref s2.heap.objs.size) (.ref (s2.heap.objs.size + 1)) →
          IsPair h' (s2.heap.objs.size + 3) .none .none → SIt h' k1 s2.heap.objs.size a 0 i1.toArray → SIt h' k2 (s2.heap.objs.size + 1) b 0 i2.toArray → h'.objs.size = s2.heap.objs.size + 5 → (∀ c o, s2.heap.get? c = some o → h'.get? c = some o) →
          wpAny (model X.prog X.w) X.A (call (.type "dict") [.ref (s2.heap.objs.size + 4)]) (EP X pins σ Q) X.xe { s2 with heap := h' } := by
        intro i1 i2 v1 v2 hz1 la lb h' hz hTI hTO g1 g2 hsz hk
        obtain ⟨prs, kvp, lp, hp⟩ := kv_zip (X := X) v1 v2 hl
        have l1 := v1.length
        have l2 := v2.length
        rw [List.length_map] at l1
        refine PySem.call_dict_pairs (knd := mixKind X.prog X.w) (kvs := prs) (PairArg.zipS k1 k2 _ _ _ _ _ a b (PySem.W.ktu_apart s2.heap.objs.size a b la lb) i1.toArray i2.toArray (by rw [List.size_toArray, List.size_toArray]; omega)) (I2.ok.hd hc) ⟨hz, hTI, ⟨_, _, hTO⟩, g1, g2⟩ ⟨by rw [List.size_toArray]; exact lp, fun i u v hu => ?_⟩ (by rw [List.size_toArray]; exact hz1) fun h2 tk hd' hk2 => ?_
        · exact hp i u v (by simpa using hu.1) (by simpa using hu.2)
        · have hm' : (h'.objs.size == sysModules) = false := beq_eq_false_iff_ne.mpr (Nat.ne_of_gt (by rw [hsz]; exact Nat.lt_of_lt_of_le I2.big (Nat.le_add_right _ _)))
          have hlen : (mergeK [] (ks.zip ys)).length ≤ sizeLine := by
            refine Nat.le_trans (length_mergeK _ []) ?_
            rw [List.length_nil, Nat.zero_add, kvp.length, lp]
            exact hz1
          have kk : ∀ c o, s2.heap.get? c = some o → h2.get? c = some o := fun c o e => hk2 c o (fun hm3 => by
            have := Heap.lt_size e
            simp only [List.mem_cons, List.not_mem_nil, or_false] at hm3
            rcases hm3 with z | z | z | z
            · rw [z] at this; exact Nat.not_lt.2 (Nat.le_add_right _ _) this
            · rw [z] at this; exact Nat.not_lt.2 (Nat.le_add_right _ _) this
            · rw [z] at this; exact Nat.lt_irrefl _ this
            · rw [z] at this; exact Nat.not_lt.2 (Nat.le_add_right _ _) this) (hk c o e)
          have hS0 : s2.heap.objs.size ≤ h'.objs.size := by rw [hsz]; exact Nat.le_add_right _ _
          exact ⟨.ref h'.objs.size, upd H2 h'.objs.size (.dK (mergeK [] (ks.zip ys))), I2.laid (t' := tk) kk hS0 (show ObjOk X.prog X.w _ _ _ (.dK (mergeK [] (ks.zip ys))) from ⟨hlen, hm', merged [] prs, KV.merge kvp .nil, hd'⟩), rfl, q _ (I2.hok.fresh hS0)⟩
      cases k1 with
      | true =>
        obtain ⟨i1, v1, p1, y1⟩ := I2.tuple hqx
        obtain ⟨o1, ho1, _⟩ := id p1
        have B1 := begins_tuple a i1.toArray
        have w1 : s2.heap.IsTuple a i1.toArray := p1
        have z1 := v1.length
        cases k2 with
        | true =>
          obtain ⟨i2, v2, p2, _⟩ := I2.tuple hqy
          obtain ⟨o2, ho2, _⟩ := id p2
          have B2 := begins_tuple b i2.toArray
          have w2 : s2.heap.IsTuple b i2.toArray := p2
          refine zipS_begins B1 B2 w1 w2 fun h' hz hTI hTO g1 g2 hsz hk => ?_
          refine Calls.spliced_nil ?_
          exact fin i1 i2 v1 v2 (by omega) (Heap.lt_size ho1) (Heap.lt_size ho2) h' hz hTI hTO ⟨⟨_, g1, rfl, rfl⟩, w1.at fun o e => hk _ o e⟩ ⟨⟨_, g2, rfl, rfl⟩, w2.at fun o e => hk _ o e⟩ hsz hk
        | false =>
          obtain ⟨i2, v2, p2, _⟩ := I2.list hqy
          have B2 := begins_list b i2.toArray
          have w2 := p2.isList
          refine zipS_begins B1 B2 w1 w2 fun h' hz hTI hTO g1 g2 hsz hk => ?_
          refine Calls.spliced_nil ?_
          exact fin i1 i2 v1 v2 (by omega) (Heap.lt_size ho1) p2.lt h' hz hTI hTO ⟨⟨_, g1, rfl, rfl⟩, w1.at fun o e => hk _ o e⟩ ⟨⟨_, g2, rfl, rfl⟩, w2.at fun o e => hk _ o e⟩ hsz hk
      | false =>
        obtain ⟨i1, v1, p1, y1⟩ := I2.list hqx
        have B1 := begins_list a i1.toArray
        have w1 := p1.isList
        have z1 := v1.length
        cases k2 with
        | true =>
          obtain ⟨i2, v2, p2, _⟩ := I2.tuple hqy
          obtain ⟨o2, ho2, _⟩ := id p2
          have B2 := begins_tuple b i2.toArray
          have w2 : s2.heap.IsTuple b i2.toArray := p2
          refine zipS_begins B1 B2 w1 w2 fun h' hz hTI hTO g1 g2 hsz hk => ?_
          refine Calls.spliced_nil ?_
          exact fin i1 i2 v1 v2 (by omega) p1.lt (Heap.lt_size ho2) h' hz hTI hTO ⟨⟨_, g1, rfl, rfl⟩, w1.at fun o e => hk _ o e⟩ ⟨⟨_, g2, rfl, rfl⟩, w2.at fun o e => hk _ o e⟩ hsz hk
        | false =>
          obtain ⟨i2, v2, p2, _⟩ := I2.list hqy
          have B2 := begins_list b i2.toArray
          have w2 := p2.isList
          refine zipS_begins B1 B2 w1 w2 fun h' hz hTI hTO g1 g2 hsz hk => ?_
          refine Calls.spliced_nil ?_
          exact fin i1 i2 v1 v2 (by omega) p1.lt p2.lt h' hz hTI hTO ⟨⟨_, g1, rfl, rfl⟩, w1.at fun o e => hk _ o e⟩ ⟨⟨_, g2, rfl, rfl⟩, w2.at fun o e => hk _ o e⟩ hsz hk
theorem g_dz {K : PySem.W.Frag} {ta : TA} {σ : L2.St} {H : Hp} {Q : VK} (h : ta σ H fun vs H1 => ∃ (k1 k2 : Bool) (a b : Addr) (ks : List L2.Key) (ys : List V), vs = [.ref a, .ref b] ∧ SqK K H1 k1 a (ks.map kV) ∧ SqK K H1 k2 b ys ∧ ks.length = ys.length ∧
  ∀ d, H1 d = none → Q (.ref d) (upd H1 d (.dK (mergeK [] (ks.zip ys))))) : uDZ K ta σ H Q := h
/-- a dict of names and items, the names in order and unlike -/
theorem zip_strs (ss : List Str) : ∀ ys : List V, (ss.map (Sum.inr : Str → L2.Key)).zip ys = (ss.zip ys).map fun p => ((.inr p.1 : L2.Key), p.2) := by
  induction ss with
  | nil => intro ys; rfl
  | cons s ss ih =>
    intro ys
    cases ys with
    | nil => rfl
    | cons y ys =>
      show (Sum.inr s, y) :: (ss.map (Sum.inr : Str → L2.Key)).zip ys = _
      rw [ih]
      rfl
theorem zip_fst {α β : Type} : ∀ (as : List α) (bs : List β), as.length ≤ bs.length → (as.zip bs).map Prod.fst = as
  | [], _, _ => rfl
  | a :: as, [], h => by simp at h
  | a :: as, b :: bs, h => by
    show a :: (as.zip bs).map Prod.fst = _
    rw [zip_fst as bs (by simpa using h)]
theorem valZ {ss : List Str} {ys : List V} {s : Str} {v : V} {j : Nat} (nd : ss.Nodup) (hl : ss.length = ys.length) (h1 : ss[j]? = some s) (h2 : ys[j]? = some v) : valV (mergeK [] ((ss.map (Sum.inr : Str → L2.Key)).zip ys)) (.inr s) = some v := by
  rw [zip_strs]
  exact mergeK_at (ss.zip ys) [] (s, v) (by rw [zip_fst ss ys (by omega)]; exact nd) (List.mem_of_getElem? (zip_at h1 h2))
end Bk

set_option Elab.async false
/-! Bk46: slices of tuples from their beginning. -/
namespace Bk
open PySem PySem.Spec PyProof.Rows L2
theorem cutV_take {xs : List V} {i : Int} (h0 : 0 ≤ i) (h1 : i ≤ xs.length) : cutV xs none (some i) = xs.take i.toNat := by
  obtain ⟨k, rfl⟩ := Int.eq_ofNat_of_zero_le h0
  unfold cutV
  rw [HT.sIx_nat, HT.sIx_none, List.drop_zero, Nat.sub_zero, Int.toNat_natCast, Nat.min_eq_left (by omega)]
theorem cutV_init (xs : List V) : cutV xs none (some (-1)) = xs.take (xs.length - 1) := by
  unfold cutV
  rw [HT.sIx_none, List.drop_zero, Nat.sub_zero]
  unfold HT.sIx
  simp only []
  congr 1
  split <;> omega
theorem Reps.take {H : Hp} : ∀ {ds : List D} {vs : List V} (k : Nat), Reps H ds vs → Reps H (ds.take k) (vs.take k)
  | ds, vs, 0, _ => by simp only [List.take_zero, Reps]
  | [], vs, k + 1, h => by
    simp only [Reps] at h
    subst h
    simp only [List.take_nil, Reps]
  | d :: ds, vs, k + 1, h => by
    obtain ⟨v, r, rfl, hv, hr⟩ := h
    exact ⟨v, r.take k, rfl, hv, Reps.take k hr⟩
theorem tree_take {H : Hp} {t : Tr} {a : Addr} {ts : List V} {k : Nat} (ha : H a = some (.tup (ts.take k))) (h : Reps H (t.map rowD) ts) : Rep H (treeD (t.take k)) (.ref a) := by
  unfold treeD
  refine Rep.tupO ha ?_
  rw [List.map_take]
  exact h.take k
theorem goTr_take {w : Wd} : ∀ {t : Tr} {ks : List Int} (k : Nat), goTr w ks t = true → goTr w ks (t.take k) = true
  | t, ks, 0, _ => rfl
  | [], ks, k + 1, _ => rfl
  | r :: t, ks, k + 1, h => by
    have h' : (stands w ks r && goTr w (ks ++ [kindAt w r.1]) t) = true := h
    rw [Bool.and_eq_true] at h'
    show (stands w ks r && goTr w (ks ++ [kindAt w r.1]) (t.take k)) = true
    rw [h'.1, goTr_take k h'.2]
    rfl
theorem szT_take {t : Tr} (ok : TrIdx t) {k a : Nat} (hk : k ≤ t.length) (ha : a < k) : szT (t.take k) a = szT t a := by
  unfold szT
  rw [List.getD_eq_getElem?_getD, List.getD_eq_getElem?_getD, ← foldV_pre k hk, List.getElem?_take, if_pos ha]
theorem txs_size : ∀ ts : List Str, (txsD ts).size = 1 + ts.length := fun ts => by
  show 1 + D.sizes (ts.map D.str) = _
  congr 1
  induction ts with
  | nil => rfl
  | cons s ts ih =>
    show 1 + D.sizes (ts.map D.str) = _
    rw [ih, List.length_cons]
    omega
theorem cnt_le2 {cs : List Int} (h : ∀ c ∈ cs, 0 ≤ c ∧ c ≤ 2) (n : Int) : cntAt cs n ≤ 2 := by
  unfold cntAt
  rw [List.getD_eq_getElem?_getD]
  cases c : cs[n.toNat]? with
  | none => decide
  | some y => exact (h y (List.mem_of_getElem? c)).2
theorem print_few {w : Wd} {p : Prn} {t : Tr} (ok : WoodOk w) (pok : PrOk w p) (ht : TrW w t) (k : Nat) : ((prints w p t).getD k []).length ≤ 2 := by
  rw [List.getD_eq_getElem?_getD]
  cases e : (prints w p t)[k]? with
  | none => exact Nat.zero_le _
  | some ts =>
    have lk : k < t.length := by
      have := (List.getElem?_eq_some_iff.1 e).1
      rw [prints_len] at this
      exact this
    obtain ⟨us, h1, h2, _⟩ := print_at ok pok ht (k + 1) k _ (Nat.lt_succ_self k) (List.getElem?_eq_getElem lk)
    rw [e] at h1
    cases h1
    have := cnt_le2 pok.count (kindAt w (t[k]).1)
    show ts.length ≤ 2
    omega
theorem print_sig {w : Wd} {p : Prn} {t : Tr} (ok : WoodOk w) (pok : PrOk w p) (ht : TrW w t) (k : Nat) : ∀ s ∈ (prints w p t).getD k [], ∀ c ∈ s.cps.toList, c < 0x110000 := by
  rw [List.getD_eq_getElem?_getD]
  cases e : (prints w p t)[k]? with
  | none => exact fun s z => nomatch z
  | some ts => exact print_low ok pok ht (k + 1) k ts (Nat.lt_succ_self k) e
theorem txs_at {H : Hp} {ts : List Str} {v : V} (h : Rep H (txsD ts) v) : ∃ a, v = .ref a ∧ H a = some (.tup (ts.map V.str)) := by
  obtain ⟨a, xs, rfl, ha, rs⟩ := Rep.tupI (show Rep H (.tup (ts.map D.str)) v from h)
  cases rs.strs
  exact ⟨a, rfl, ha⟩
end Bk

namespace Lw
open PySem PySem.Spec PyProof.Rows L2 Bk

local macro_rules | `(tactic| walk_at "side") => `(tactic| first | assumption | decide | omega | exact .inl (.inl ⟨by decide, by decide⟩) | exact .inl (.inr ⟨by decide, by decide⟩) | exact ⟨by decide, by decide, by decide⟩ | exact ⟨by decide, by decide⟩)
local macro_rules | `(tactic| walk_at "heap") => `(tactic| first | assumption | exact upd_same | (refine Eq.trans (upd_ne (ne_of_none (by assumption) (by assumption))) ?_; assumption))
local macro_rules | `(tactic| walk_at "go1") => `(tactic| with_reducible first
  | refine g_seq ?_ | refine g_asg ?_ | refine g_ret ?_ | refine g_retN ?_ | refine g_drop ?_ | refine g_ifs ?_ | refine g_next ?_ | refine g_par ?_ | refine g_pair ?_ | refine g_name ?_ | refine g_sub ?_
  | refine g_c ?_ | refine g_op ?_ | refine g_un ?_ | refine g_cons ?_ | refine g_nil ?_ | refine g_cb ?_ | refine g_call ?_ | refine g_if ?_ | refine g_iT ?_ | refine g_iF ?_ | refine g_iNT ?_ | refine g_iNF ?_ | refine g_notV ?_ | refine g_not ?_ | refine g_and ?_ | refine g_or ?_
  | refine g_uT ?_ | refine g_test ?_ | refine g_tB ?_ | refine g_bl ?_ | refine g_chain ?_ | refine g_andV ?_ | refine g_orV ?_ | refine g_tbl ?_ | refine g_tin ?_ | refine g_addI ?_ | refine g_i0 ?_ | refine g_neg ?_ | refine g_eqI ?_ | refine g_neI ?_ | refine g_eqS ?_ | refine g_neS ?_ | refine g_neBB ?_ | refine g_neB ?_ | refine g_lz ?_ | refine g_bmS ?_ | refine g_tyStr ?_ | refine g_tyS ?_ | refine g_dnew ?_ | refine g_lcU ?_ | refine g_yes ?_ | refine g_dg ?_ | refine g_di ?_ | refine g_dni ?_ | refine g_dp ?_ | refine g_ds ?_ | refine g_for ?_ | refine g_rng1 ?_ | refine g_rng2 ?_ | refine g_zipA ?_ | refine g_sl ?_ | refine g_noP ?_ | refine g_part ?_ | refine g_exI ?_ | refine g_isNn ?_ | refine g_isNr ?_ | refine g_isNi ?_ | refine g_notNn ?_ | refine g_notNr ?_ | refine g_notNi ?_
  | refine g_abs ?_ | refine g_max ?_ | refine g_min ?_ | refine g_intI ?_ | refine g_intB ?_ | refine g_tup ?_ | refine g_lst ?_ | refine g_bm0 ?_ | refine g_bm ?_)
local macro_rules | `(tactic| walk_at "go2") => `(tactic| first
  | refine g_var rfl ?_ | (refine g_i ?_ (by walk_at "side"))
  | (refine g_lenL (by assumption) ?_) | (refine g_lenT (by assumption) ?_) | (refine g_lenSq (by assumption) ?_)
  | (refine g_ixL (by assumption) (by rfl) ?_) | (refine g_ixT (by assumption) (by rfl) ?_)
  | (refine g_tyL (by assumption) ?_))
local macro_rules | `(tactic| walk_at "go") => `(tactic| repeat (first | walk_at "go1" | walk_at "go2"))

def top (i : Nat) : Stmt := PySem.Challenge.pw_boughkept_k42_printed.main.body.getD i (.Pass ⟨0, 0, 0, 0⟩)
abbrev s_makers_of : Stmt := top 1
abbrev N_makers_of : List Str := ["wood", "found", "kind", "makers", "name", "parts"]
theorem sc_makers_of : FnScope ["wood", "found", "kind", "makers", "name", "parts"] ["wood"] (defScope s_makers_of) := ⟨rfl, rfl, rfl, by decide +kernel, rfl, by decide +kernel, by decide +kernel⟩
abbrev s_joined : Stmt := top 3
abbrev N_joined : List Str := ["row", "parts", "item"]
theorem sc_joined : FnScope ["row", "parts", "item"] ["row", "parts"] (defScope s_joined) := ⟨rfl, rfl, rfl, by decide +kernel, rfl, by decide +kernel, by decide +kernel⟩
abbrev s_printed_at : Stmt := top 4
abbrev N_printed_at : List Str := ["wood", "printer", "tree", "rules", "found", "maker", "numbers", "parts", "number", "row"]
theorem sc_printed_at : FnScope ["wood", "printer", "tree", "rules", "found", "maker", "numbers", "parts", "number", "row"] ["wood", "printer", "tree"] (defScope s_printed_at) := ⟨rfl, rfl, rfl, by decide +kernel, rfl, by decide +kernel, by decide +kernel⟩
abbrev s_law_box : Stmt := top 6
abbrev N_law_box : List Str := ["_law_script", "_law_k", "_law_cell", "_law_seed"]
theorem sc_law_box : FnScope ["_law_script", "_law_k", "_law_cell", "_law_seed"] ["_law_script", "_law_k"] (defScope s_law_box) := ⟨rfl, rfl, rfl, by decide +kernel, rfl, by decide +kernel, by decide +kernel⟩
abbrev s_law_take : Stmt := top 7
abbrev N_law_take : List Str := ["_law_box_here", "_law_many", "_law_digit", "_law_one"]
theorem sc_law_take : FnScope ["_law_box_here", "_law_many", "_law_digit", "_law_one"] ["_law_box_here", "_law_many"] (defScope s_law_take) := ⟨rfl, rfl, rfl, by decide +kernel, rfl, by decide +kernel, by decide +kernel⟩
abbrev s_law_names : Stmt := top 8
abbrev N_law_names : List Str := ["_law_box_here", "_law_many", "_law_letters_here", "_law_stem", "_law_at", "_law_first", "_law_found", "_law_k", "_law_name"]
theorem sc_law_names : FnScope ["_law_box_here", "_law_many", "_law_letters_here", "_law_stem", "_law_at", "_law_first", "_law_found", "_law_k", "_law_name"] ["_law_box_here", "_law_many"] (defScope s_law_names) := ⟨rfl, rfl, rfl, by decide +kernel, rfl, by decide +kernel, by decide +kernel⟩
abbrev s_law_wood : Stmt := top 9
abbrev N_law_wood : List Str := ["_law_box_here", "_law_most_kinds", "_law_most_makers", "_law_many", "_law_names_here", "_law_makers_here", "_law_m", "_law_kind", "_law_count", "_law_parts", "_law_k", "_law_p"]
theorem sc_law_wood : FnScope ["_law_box_here", "_law_most_kinds", "_law_most_makers", "_law_many", "_law_names_here", "_law_makers_here", "_law_m", "_law_kind", "_law_count", "_law_parts", "_law_k", "_law_p"] ["_law_box_here", "_law_most_kinds", "_law_most_makers"] (defScope s_law_wood) := ⟨rfl, rfl, rfl, by decide +kernel, rfl, by decide +kernel, by decide +kernel⟩
abbrev s_law_makers : Stmt := top 10
abbrev N_law_makers : List Str := ["_law_wood_here", "_law_names_here", "_law_found", "_law_k", "_law_name", "_law_makers_here", "_law_maker", "_law_parts", "_law_kind", "_law_part"]
theorem sc_law_makers : FnScope ["_law_wood_here", "_law_names_here", "_law_found", "_law_k", "_law_name", "_law_makers_here", "_law_maker", "_law_parts", "_law_kind", "_law_part"] ["_law_wood_here"] (defScope s_law_makers) := ⟨rfl, rfl, rfl, by decide +kernel, rfl, by decide +kernel, by decide +kernel⟩
abbrev s_law_tree : Stmt := top 11
abbrev N_law_tree : List Str := ["_law_box_here", "_law_wood_here", "_law_most", "_law_makers_here", "_law_rows", "_law_kinds", "_law_turn", "_law_able", "_law_maker", "_law_kind", "_law_parts", "_law_numbers", "_law_part", "_law_there", "_law_m", "_law_r"]
theorem sc_law_tree : FnScope ["_law_box_here", "_law_wood_here", "_law_most", "_law_makers_here", "_law_rows", "_law_kinds", "_law_turn", "_law_able", "_law_maker", "_law_kind", "_law_parts", "_law_numbers", "_law_part", "_law_there", "_law_m", "_law_r"] ["_law_box_here", "_law_wood_here", "_law_most"] (defScope s_law_tree) := ⟨rfl, rfl, rfl, by decide +kernel, rfl, by decide +kernel, by decide +kernel⟩
abbrev s_law_size : Stmt := top 12
abbrev N_law_size : List Str := ["_law_tree_here", "_law_found", "_law_maker", "_law_numbers", "_law_n"]
theorem sc_law_size : FnScope ["_law_tree_here", "_law_found", "_law_maker", "_law_numbers", "_law_n"] ["_law_tree_here"] (defScope s_law_size) := ⟨rfl, rfl, rfl, by decide +kernel, rfl, by decide +kernel, by decide +kernel⟩
abbrev s_law_plain : Stmt := top 13
abbrev N_law_plain : List Str := ["_law_tree_here", "_law_numbers", "_law_rows", "_law_own", "_law_left", "_law_at", "_law_is_done", "_law_mark", "_law_n"]
theorem sc_law_plain : FnScope ["_law_tree_here", "_law_numbers", "_law_rows", "_law_own", "_law_left", "_law_at", "_law_is_done", "_law_mark", "_law_n"] ["_law_tree_here"] (defScope s_law_plain) := ⟨rfl, rfl, rfl, by decide +kernel, rfl, by decide +kernel, by decide +kernel⟩
abbrev s_law_alike : Stmt := top 14
abbrev N_law_alike : List Str := ["_law_found", "_law_due", "_law_left", "_law_one", "_law_other"]
theorem sc_law_alike : FnScope ["_law_found", "_law_due", "_law_left", "_law_one", "_law_other"] ["_law_found", "_law_due"] (defScope s_law_alike) := ⟨rfl, rfl, rfl, by decide +kernel, rfl, by decide +kernel, by decide +kernel⟩
abbrev s_law_letters : Stmt := top 15
abbrev N_law_letters : List Str := ["_law_box_here", "_law_many", "_law_left", "_law_k"]
theorem sc_law_letters : FnScope ["_law_box_here", "_law_many", "_law_left", "_law_k"] ["_law_box_here", "_law_many"] (defScope s_law_letters) := ⟨rfl, rfl, rfl, by decide +kernel, rfl, by decide +kernel, by decide +kernel⟩
abbrev s_law_item_text : Stmt := top 16
abbrev N_law_item_text : List Str := ["_law_box_here", "_law_letters_here", "_law_many", "_law_k"]
theorem sc_law_item_text : FnScope ["_law_box_here", "_law_letters_here", "_law_many", "_law_k"] ["_law_box_here", "_law_letters_here"] (defScope s_law_item_text) := ⟨rfl, rfl, rfl, by decide +kernel, rfl, by decide +kernel, by decide +kernel⟩
abbrev s_law_text_counts : Stmt := top 17
abbrev N_law_text_counts : List Str := ["_law_box_here", "_law_wood_here", "_law_most", "_law_found", "_law_kind"]
theorem sc_law_text_counts : FnScope ["_law_box_here", "_law_wood_here", "_law_most", "_law_found", "_law_kind"] ["_law_box_here", "_law_wood_here", "_law_most"] (defScope s_law_text_counts) := ⟨rfl, rfl, rfl, by decide +kernel, rfl, by decide +kernel, by decide +kernel⟩
abbrev s_law_rows_of_items : Stmt := top 18
abbrev N_law_rows_of_items : List Str := ["_law_box_here", "_law_letters_here", "_law_many", "_law_left", "_law_rows", "_law_turn", "_law_row", "_law_j"]
theorem sc_law_rows_of_items : FnScope ["_law_box_here", "_law_letters_here", "_law_many", "_law_left", "_law_rows", "_law_turn", "_law_row", "_law_j"] ["_law_box_here", "_law_letters_here", "_law_many", "_law_left"] (defScope s_law_rows_of_items) := ⟨rfl, rfl, rfl, by decide +kernel, rfl, by decide +kernel, by decide +kernel⟩
abbrev s_law_boxes_left : Stmt := top 19
abbrev N_law_boxes_left : List Str := ["_law_parts", "_law_counts", "_law_left", "_law_p", "_law_part", "_law_b"]
theorem sc_law_boxes_left : FnScope ["_law_parts", "_law_counts", "_law_left", "_law_p", "_law_part", "_law_b"] ["_law_parts", "_law_counts"] (defScope s_law_boxes_left) := ⟨rfl, rfl, rfl, by decide +kernel, rfl, by decide +kernel, by decide +kernel⟩
abbrev s_law_printer : Stmt := top 20
abbrev N_law_printer : List Str := ["_law_box_here", "_law_wood_here", "_law_letters_here", "_law_counts", "_law_rules", "_law_maker", "_law_kind", "_law_parts"]
theorem sc_law_printer : FnScope ["_law_box_here", "_law_wood_here", "_law_letters_here", "_law_counts", "_law_rules", "_law_maker", "_law_kind", "_law_parts"] ["_law_box_here", "_law_wood_here", "_law_letters_here", "_law_counts"] (defScope s_law_printer) := ⟨rfl, rfl, rfl, by decide +kernel, rfl, by decide +kernel, by decide +kernel⟩
abbrev s_law_prints : Stmt := top 21
abbrev N_law_prints : List Str := ["_law_wood_here", "_law_printer_here", "_law_tree_here", "_law_names_here", "_law_found", "_law_maker", "_law_numbers", "_law_texts", "_law_row", "_law_text", "_law_item", "_law_kind", "_law_parts"]
theorem sc_law_prints : FnScope ["_law_wood_here", "_law_printer_here", "_law_tree_here", "_law_names_here", "_law_found", "_law_maker", "_law_numbers", "_law_texts", "_law_row", "_law_text", "_law_item", "_law_kind", "_law_parts"] ["_law_wood_here", "_law_printer_here", "_law_tree_here"] (defScope s_law_prints) := ⟨rfl, rfl, rfl, by decide +kernel, rfl, by decide +kernel, by decide +kernel⟩
abbrev s_law_some_tree : Stmt := top 22
abbrev N_law_some_tree : List Str := ["_law_box_here", "_law_wood_here", "_law_tree_here", "_law_most", "_law_at"]
theorem sc_law_some_tree : FnScope ["_law_box_here", "_law_wood_here", "_law_tree_here", "_law_most", "_law_at"] ["_law_box_here", "_law_wood_here"] (defScope s_law_some_tree) := ⟨rfl, rfl, rfl, by decide +kernel, rfl, by decide +kernel, by decide +kernel⟩
abbrev s_law : Stmt := top 23
abbrev N_law : List Str := ["_law_script", "_law_k", "_law_box_here", "_law_wide", "_law_wood_here", "_law_tree_here", "_law_printers", "_law_turn", "_law_letters_here", "_law_printer_here", "_law_due"]
theorem sc_law : FnScope ["_law_script", "_law_k", "_law_box_here", "_law_wide", "_law_wood_here", "_law_tree_here", "_law_printers", "_law_turn", "_law_letters_here", "_law_printer_here", "_law_due"] ["_law_script"] (defScope s_law) := ⟨rfl, rfl, rfl, by decide +kernel, rfl, by decide +kernel, by decide +kernel⟩
structure Txt (K : PySem.W.Frag) (mg : Str → Option Value) where
  a_makers_of : Addr
  d_makers_of : FuncData
  m_makers_of : mg "makers_of" = some (.ref a_makers_of)
  b_makers_of : Binds K d_makers_of ["wood"] []
  F_makers_of : Fun K "makers_of" "makers_of" s_makers_of a_makers_of d_makers_of
  a_joined : Addr
  d_joined : FuncData
  m_joined : mg "joined" = some (.ref a_joined)
  b_joined : Binds K d_joined ["row", "parts"] []
  F_joined : Fun K "joined" "joined" s_joined a_joined d_joined
  a_printed_at : Addr
  d_printed_at : FuncData
  m_printed_at : mg "printed_at" = some (.ref a_printed_at)
  b_printed_at : Binds K d_printed_at ["wood", "printer", "tree"] []
  F_printed_at : Fun K "printed_at" "printed_at" s_printed_at a_printed_at d_printed_at
  a_law_box : Addr
  d_law_box : FuncData
  m_law_box : mg "_law_box" = some (.ref a_law_box)
  b_law_box : Binds K d_law_box ["_law_script", "_law_k"] []
  F_law_box : Fun K "_law_box" "_law_box" s_law_box a_law_box d_law_box
  a_law_take : Addr
  d_law_take : FuncData
  m_law_take : mg "_law_take" = some (.ref a_law_take)
  b_law_take : Binds K d_law_take ["_law_box_here", "_law_many"] []
  F_law_take : Fun K "_law_take" "_law_take" s_law_take a_law_take d_law_take
  a_law_names : Addr
  d_law_names : FuncData
  m_law_names : mg "_law_names" = some (.ref a_law_names)
  b_law_names : Binds K d_law_names ["_law_box_here", "_law_many"] []
  F_law_names : Fun K "_law_names" "_law_names" s_law_names a_law_names d_law_names
  a_law_wood : Addr
  d_law_wood : FuncData
  m_law_wood : mg "_law_wood" = some (.ref a_law_wood)
  b_law_wood : Binds K d_law_wood ["_law_box_here", "_law_most_kinds", "_law_most_makers"] []
  F_law_wood : Fun K "_law_wood" "_law_wood" s_law_wood a_law_wood d_law_wood
  a_law_makers : Addr
  d_law_makers : FuncData
  m_law_makers : mg "_law_makers" = some (.ref a_law_makers)
  b_law_makers : Binds K d_law_makers ["_law_wood_here"] []
  F_law_makers : Fun K "_law_makers" "_law_makers" s_law_makers a_law_makers d_law_makers
  a_law_tree : Addr
  d_law_tree : FuncData
  m_law_tree : mg "_law_tree" = some (.ref a_law_tree)
  b_law_tree : Binds K d_law_tree ["_law_box_here", "_law_wood_here", "_law_most"] []
  F_law_tree : Fun K "_law_tree" "_law_tree" s_law_tree a_law_tree d_law_tree
  a_law_size : Addr
  d_law_size : FuncData
  m_law_size : mg "_law_size" = some (.ref a_law_size)
  b_law_size : Binds K d_law_size ["_law_tree_here"] []
  F_law_size : Fun K "_law_size" "_law_size" s_law_size a_law_size d_law_size
  a_law_plain : Addr
  d_law_plain : FuncData
  m_law_plain : mg "_law_plain" = some (.ref a_law_plain)
  b_law_plain : Binds K d_law_plain ["_law_tree_here"] []
  F_law_plain : Fun K "_law_plain" "_law_plain" s_law_plain a_law_plain d_law_plain
  a_law_alike : Addr
  d_law_alike : FuncData
  m_law_alike : mg "_law_alike" = some (.ref a_law_alike)
  b_law_alike : Binds K d_law_alike ["_law_found", "_law_due"] []
  F_law_alike : Fun K "_law_alike" "_law_alike" s_law_alike a_law_alike d_law_alike
  a_law_letters : Addr
  d_law_letters : FuncData
  m_law_letters : mg "_law_letters" = some (.ref a_law_letters)
  b_law_letters : Binds K d_law_letters ["_law_box_here", "_law_many"] []
  F_law_letters : Fun K "_law_letters" "_law_letters" s_law_letters a_law_letters d_law_letters
  a_law_item_text : Addr
  d_law_item_text : FuncData
  m_law_item_text : mg "_law_item_text" = some (.ref a_law_item_text)
  b_law_item_text : Binds K d_law_item_text ["_law_box_here", "_law_letters_here"] []
  F_law_item_text : Fun K "_law_item_text" "_law_item_text" s_law_item_text a_law_item_text d_law_item_text
  a_law_text_counts : Addr
  d_law_text_counts : FuncData
  m_law_text_counts : mg "_law_text_counts" = some (.ref a_law_text_counts)
  b_law_text_counts : Binds K d_law_text_counts ["_law_box_here", "_law_wood_here", "_law_most"] []
  F_law_text_counts : Fun K "_law_text_counts" "_law_text_counts" s_law_text_counts a_law_text_counts d_law_text_counts
  a_law_rows_of_items : Addr
  d_law_rows_of_items : FuncData
  m_law_rows_of_items : mg "_law_rows_of_items" = some (.ref a_law_rows_of_items)
  b_law_rows_of_items : Binds K d_law_rows_of_items ["_law_box_here", "_law_letters_here", "_law_many", "_law_left"] []
  F_law_rows_of_items : Fun K "_law_rows_of_items" "_law_rows_of_items" s_law_rows_of_items a_law_rows_of_items d_law_rows_of_items
  a_law_boxes_left : Addr
  d_law_boxes_left : FuncData
  m_law_boxes_left : mg "_law_boxes_left" = some (.ref a_law_boxes_left)
  b_law_boxes_left : Binds K d_law_boxes_left ["_law_parts", "_law_counts"] []
  F_law_boxes_left : Fun K "_law_boxes_left" "_law_boxes_left" s_law_boxes_left a_law_boxes_left d_law_boxes_left
  a_law_printer : Addr
  d_law_printer : FuncData
  m_law_printer : mg "_law_printer" = some (.ref a_law_printer)
  b_law_printer : Binds K d_law_printer ["_law_box_here", "_law_wood_here", "_law_letters_here", "_law_counts"] []
  F_law_printer : Fun K "_law_printer" "_law_printer" s_law_printer a_law_printer d_law_printer
  a_law_prints : Addr
  d_law_prints : FuncData
  m_law_prints : mg "_law_prints" = some (.ref a_law_prints)
  b_law_prints : Binds K d_law_prints ["_law_wood_here", "_law_printer_here", "_law_tree_here"] []
  F_law_prints : Fun K "_law_prints" "_law_prints" s_law_prints a_law_prints d_law_prints
  a_law_some_tree : Addr
  d_law_some_tree : FuncData
  m_law_some_tree : mg "_law_some_tree" = some (.ref a_law_some_tree)
  b_law_some_tree : Binds K d_law_some_tree ["_law_box_here", "_law_wood_here"] []
  F_law_some_tree : Fun K "_law_some_tree" "_law_some_tree" s_law_some_tree a_law_some_tree d_law_some_tree
  a_law : Addr
  d_law : FuncData
  m_law : mg "law" = some (.ref a_law)
  b_law : Binds K d_law ["_law_script"] []
  F_law : Fun K "law" "law" s_law a_law d_law
  z_all : mg "all" = none
  z_bool : mg "bool" = none
  z_dict : mg "dict" = none
  z_enumerate : mg "enumerate" = none
  z_int : mg "int" = none
  z_isinstance : mg "isinstance" = none
  z_len : mg "len" = none
  z_list : mg "list" = none
  z_max : mg "max" = none
  z_min : mg "min" = none
  z_range : mg "range" = none
  z_reversed : mg "reversed" = none
  z_str : mg "str" = none
  z_sum : mg "sum" = none
  z_tuple : mg "tuple" = none
  z_zip : mg "zip" = none
section
variable {P : Program} {w : World} {K : PySem.W.Frag} {mg : Str → Option Value} {base : Heap}
theorem ok_makers_of (T : Txt K mg) : FnOk P w K mg base (L2.CX P w) 1 T.a_makers_of T.d_makers_of ["wood"] spMakersOf := by
  refine T.F_makers_of.okX sc_makers_of (fun vs H Q E h => ?_) (fun cdv A outer s H vs Q E hr h => ?_)
  · obtain ⟨_, _, rfl, _⟩ := h
    rfl
  obtain ⟨wd, v, rfl, rv, hl, hm, q⟩ := h
  refine ⟨_, (pss_cons (ps_set (i := 1) sc_makers_of.nd rfl (by first | exact Or.inl rfl | exact Or.inr rfl) (pe_lst pa_nil))
      (pss_cons (ps_for (passes_of rfl) rfl (ui_seq (uv 0)) (pg_tup rfl (pgs_cons (pg_name (i := 2) sc_makers_of.nd rfl (by first | exact Or.inl rfl | exact Or.inr rfl)) (pgs_cons (pg_name (i := 3) sc_makers_of.nd rfl (by first | exact Or.inl rfl | exact Or.inr rfl)) pgs_nil))) (pss_one (ps_aug (i := 1) sc_makers_of.nd rfl (by first | exact Or.inl rfl | exact Or.inr rfl) (pe_lc (own := [("name", 4), ("parts", 5)]) (g := gTup K 2 (gCons (gName 4) (gCons (gName 5) gNil))) rfl sc_makers_of.nd (ui_seq (uv 3)) (blkOk_by (own := [("name", 4), ("parts", 5)]) (N := N_makers_of) (sc := defScope s_makers_of) (by decide +kernel)) (fun _ _ _ _ _ => (pg_tup rfl (pgs_cons (pg_name (i := 4) sc_makers_of.nd rfl (by first | exact Or.inl rfl | exact Or.inr rfl)) (pgs_cons (pg_name (i := 5) sc_makers_of.nd rfl (by first | exact Or.inl rfl | exact Or.inr rfl)) pgs_nil)))) (fun _ _ _ _ _ => pts_nil) (fun _ _ _ _ _ => (uv 4))) ip_catL)))
      (pss_one (ps_ret (uv 1))))), ?_⟩
  obtain ⟨a, xs, rfl, ha, rs⟩ := rv.tupI
  have lx : xs.length = wd.length := by rw [rs.len, List.length_map]
  walk_at "go"
  refine g_new fun l hl0 => ?_
  walk_at "go"
  refine g_seqTs ?_
  walk_at "go"
  refine ⟨_, rfl, ⟨xs, sqT (Ex.new hl0 _ _ ha)⟩, ?_⟩
  refine for_it walk_tup (fun i σ H1 => (∃ o2 o3 o4 o5, σ = [some (.ref a), some (.ref l), o2, o3, o4, o5]) ∧ Ex H H1 ∧ H1 l = some (.lst ((mkNames (wd.take i)).map V.str))) ⟨⟨none, none, none, none, rfl⟩, Ex.new hl0, upd_same⟩ (fun i σ H1 _ h => sqT (h.2.1 _ _ ha)) ?_ ?_
  · rintro i x σ H1 H1' hi ⟨⟨o2, o3, o4, o5, rfl⟩, e1, hl1⟩ ⟨rfl, hx⟩
    obtain ⟨kd, b, c, ys, ek, rfl, hb, hc, ry⟩ := wood_at rs hx
    have ly : ys.length = kd.2.length := by rw [ry.len, List.length_map]
    have hk := hm kd (List.mem_of_getElem? ek)
    refine g_tup2 (e1 _ _ hb) ?_
    walk_at "go"
    refine g_augL rfl ?_
    walk_at "go"
    refine g_seqTs ?_
    walk_at "go"
    refine ⟨_, rfl, ⟨ys, sqT (e1 _ _ hc)⟩, fun D hD => ?_⟩
    refine lc_mapE walk_tup (fun j _ v => ∃ m, kd.2[j]? = some m ∧ v = .str m.1) (by omega) hD (fun _ _ _ _ _ r => r) (fun H2 e => sqT (e _ _ (e1 _ _ hc))) ?_ ?_
    · rintro j y H2 H3 P N hj e ⟨rfl, hy⟩ k
      obtain ⟨m, b2, c2, em, rfl, hb2, _⟩ := mk_at ry hy
      refine g_tup2 (e _ _ (e1 _ _ hb2)) ?_
      walk_at "go"
      refine ⟨rfl, ?_⟩
      walk_at "go"
      exact k _ _ (Ex.refl _) ⟨m, em, rfl⟩
    · intro H2 acc e2 hacc hla hr2
      have ea : acc = (kd.2.map Prod.fst).map V.str := by
        refine List.ext_getElem? fun j => ?_
        cases h : acc[j]? with
        | none =>
          have := List.getElem?_eq_none_iff.1 h
          symm
          rw [List.getElem?_eq_none_iff, List.length_map, List.length_map]
          omega
        | some v =>
          obtain ⟨m, em, rfl⟩ := hr2 j v h
          rw [List.getElem?_map, List.getElem?_map, em]
          rfl
      subst ea
      have en : mkNames (wd.take (i + 1)) = mkNames (wd.take i) ++ kd.2.map Prod.fst := by
        unfold mkNames
        rw [List.take_add_one, ek, List.map_append, List.flatten_append]
        simp
      have le : (mkNames (wd.take (i + 1))).length ≤ (mkNames wd).length := by
        have : mkNames wd = mkNames (wd.take (i + 1)) ++ mkNames (wd.drop (i + 1)) := by
          unfold mkNames
          rw [← List.flatten_append, ← List.map_append, List.take_append_drop]
        rw [this, List.length_append]
        omega
      rw [en, List.length_append, List.length_map] at le
      refine g_iadd (e2 _ _ hl1) hacc (by rw [List.length_map, List.length_map, List.length_map]; omega) ?_
      walk_at "go"
      refine ⟨⟨_, _, _, _, rfl⟩, (e1.trans e2).at_new hl0, ?_⟩
      rw [upd_same, en, List.map_append]
  · rintro σ H1 ⟨⟨o2, o3, o4, o5, rfl⟩, e1, hl1⟩
    rw [lx, List.take_length] at hl1
    walk_at "go"
    exact q _ _ hl0 e1 hl1

theorem ok_joined (T : Txt K mg) : FnOk P w K mg base (L2.CX P w) 1 T.a_joined T.d_joined ["row", "parts"] spJoined := by
  refine T.F_joined.okX sc_joined (fun vs H Q E h => ?_) (fun cdv A outer s H vs Q E hr h => ?_)
  · obtain ⟨_, _, _, _, _, rfl, _⟩ := h
    rfl
  obtain ⟨ra, pa, r, parts, pvs, rfl, rr, hpa, rp, l100, l6, hbx, ll, q⟩ := h
  refine ⟨_, (pss_one (ps_ret (pe_join pe_str (pe_lc (own := [("item", 2)]) (g := gName 2) rfl sc_joined.nd (ui_seq (uv 0)) (blkOk_by (own := [("item", 2)]) (N := N_joined) (sc := defScope s_joined) (by decide +kernel)) (fun _ _ _ _ _ => (pg_name (i := 2) sc_joined.nd rfl (by first | exact Or.inl rfl | exact Or.inr rfl))) (fun _ _ _ _ _ => pts_nil) (fun _ _ _ _ _ => (pe_ifExp (utK K (pe_callB (show CallR _ (.builtin "isinstance") (uIs K) from uk_is) rfl T.z_isinstance boot_isinstance (pa_cons (uv 2) (pa_cons (pe_bltn (v := .ty "str") rfl T.z_str boot_str rfl) pa_nil)))) (uv 2) (pe_ix (show IxR _ (uIx K) from ux_seq) (pe_ix (show IxR _ (uIx K) from ux_seq) (uv 1) (pe_ix (show IxR _ (uIx K) from ux_seq) (uv 2) pe_int (fun _ _ => rfl)) (fun _ _ => rfl)) (pe_ix (show IxR _ (uIx K) from ux_seq) (uv 2) pe_int (fun _ _ => rfl)) (fun _ _ => rfl)))))))), ?_⟩
  obtain ⟨ra', rs, era, hra, rrs⟩ := id (Rep.tupI (show Rep H (.tup (r.map itD)) (.ref ra) from rr))
  cases era
  have lrs : rs.length = r.length := by rw [rrs.len, List.length_map]
  walk_at "go"
  refine g_m1 ?_
  walk_at "go"
  refine g_seqTs ?_
  walk_at "go"
  refine ⟨_, rfl, ⟨_, sqT hra⟩, fun Dl hD => ?_⟩
  refine lc_mapE walk_tup (fun j H8 v => ∃ m, r[j]? = some m ∧ v = V.str (joinIt parts m)) (by omega) hD (fun _ _ _ _ _ z => z) (fun H8 e8 => sqT (e8 _ _ hra)) ?_ ?_
  · rintro j x H8 H9 P N hj e8 ⟨rfl, hx⟩ kk
    replace hx : rs[j]? = some x := hx
    obtain ⟨d, hd, rd⟩ := rrs.get hx
    rw [List.getElem?_map] at hd
    cases em : r[j]? with
    | none => rw [em] at hd; cases hd
    | some m =>
    rw [em] at hd
    cases hd
    have hpa8 := e8 _ _ hpa
    walk_at "go"
    refine ⟨rfl, ?_⟩
    walk_at "go"
    cases m with
    | inl s =>
      refine g_isD (rd.ex e8) (b := true) kit_ss ?_
      cases rd.strI
      walk_at "go"
      exact kk _ _ (Ex.refl _) ⟨.inl s, em, rfl⟩
    | inr b =>
      refine g_isD (rd.ex e8) (b := false) kit_ts ?_
      obtain ⟨ba, rfl, hba⟩ := bd_rep rd
      have hba8 := e8 _ _ hba
      obtain ⟨⟨b0, b1⟩, b2, b3⟩ := hbx b (List.mem_of_getElem? em)
      have lpv : pvs.length = parts.length := by rw [rp.len, List.length_map]
      obtain ⟨px, ep, hp⟩ := atI_ex (l := pvs) b0 (by omega)
      obtain ⟨dp, hdp, rdp⟩ := rp.get hp
      rw [List.getElem?_map] at hdp
      cases et : parts[b.1.toNat]? with
      | none => rw [et] at hdp; cases hdp
      | some ts =>
      rw [et] at hdp
      cases hdp
      obtain ⟨ta, tv, rfl, hta, rts⟩ := Rep.tupI (show Rep H (.tup (ts.map Bk.D.str)) px from rdp)
      cases rts.strs
      have eg : parts.getD b.1.toNat [] = ts := by rw [List.getD_eq_getElem?_getD, et]; rfl
      rw [eg] at b3
      obtain ⟨sx, es, hs⟩ := atI_ex (l := ts.map V.str) b2 (by rw [List.length_map]; exact b3)
      rw [List.getElem?_map] at hs
      cases ey : ts[b.2.toNat]? with
      | none => rw [ey] at hs; cases hs
      | some y =>
      rw [ey] at hs
      cases hs
      walk_at "go"
      refine g_ixL hpa8 ep ?_
      walk_at "go"
      refine g_ixT (e8 _ _ hta) es ?_
      exact kk _ _ (Ex.refl _) ⟨.inr b, em, by
        show _ = V.str ((parts.getD b.1.toNat []).getD b.2.toNat "")
        rw [eg, List.getD_eq_getElem?_getD, ey]
        rfl⟩
  intro H5 acc e5 hacc hla hr2
  have ea := acc_mapS (xs := r) (f := joinIt parts) (by omega) hr2
  subst ea
  refine ⟨"", Dl, r.map (joinIt parts), rfl, rfl, .inl (sqL hacc), ?_, ?_⟩
  · have z : (joinRow parts r).length = ((r.map (joinIt parts)).map (·.length)).sum := joinE_len
    have : (Str.ofString "").length = 0 := rfl
    rw [this]
    omega
  exact q _ e5

theorem ok_law_box (T : Txt K mg) : FnOk P w K mg base (L2.CX P w) 1 T.a_law_box T.d_law_box ["_law_script", "_law_k"] (spBox K) := by
  refine T.F_law_box.okX sc_law_box (fun vs H Q E h => ?_) (fun cdv A outer s H vs Q E hr h => ?_)
  · obtain ⟨p, ns, k, rfl, _⟩ := h
    rfl
  obtain ⟨p, ns, k, rfl, hS, hl, q⟩ := h
  refine ⟨_, (pss_cons (ps_set (i := 2) sc_law_box.nd rfl (by first | exact Or.inl rfl | exact Or.inr rfl) (pe_op uo_add (pe_op uo_mul pe_int (uv 1)) pe_int))
      (C8.pss_cut (ps_if (pt_cmpR uo_lt (uv 1) (pe_callB uk_len rfl T.z_len boot_len (pa_cons (uv 0) pa_nil)) (nomark _)) (pss_one (ps_set (i := 2) sc_law_box.nd rfl (by first | exact Or.inl rfl | exact Or.inr rfl) (pe_ix ux_seq (uv 0) (uv 1) (fun _ _ => rfl)))) (pss_one (ps_if (pt_cmpR uo_gt (pe_callB uk_len rfl T.z_len boot_len (pa_cons (uv 0) pa_nil)) pe_int (nomark _)) (pss_one (ps_set (i := 2) sc_law_box.nd rfl (by first | exact Or.inl rfl | exact Or.inr rfl) (pe_op uo_add (uv 2) (pe_op uo_mul (pe_op uo_mod (pe_ix ux_seq (uv 0) (pe_op uo_mod (uv 1) (pe_callB uk_len rfl T.z_len boot_len (pa_cons (uv 0) pa_nil))) (fun _ _ => rfl)) pe_int) pe_int)))) pss_nil)))
      (pss_cons (ps_set (i := 3) sc_law_box.nd rfl (by first | exact Or.inl rfl | exact Or.inr rfl) (pe_op uo_add (pe_op uo_mod (pe_op uo_add (pe_op uo_mul (pe_op uo_mod (uv 2) pe_int) pe_int) (pe_op uo_mul pe_int (uv 1))) pe_int) pe_int))
      (pss_one (ps_ret (pe_lst (pa_cons (pe_ix ux_seq (pe_lst (pa_cons pe_int (pa_cons (uv 2) pa_nil))) (pe_callTy uk_int rfl T.z_int boot_int (pa_cons (pe_cmpR uo_ge (uv 2) (pe_op uo_pow pe_int pe_int) (nomark _)) pa_nil)) (fun _ _ => rfl)) (pa_cons (uv 3) (pa_cons pe_int pa_nil))))))))), ?_⟩
  walk_at "go"
  refine ⟨fun σ' H' => (∃ x : Int, σ' = [some (V.ref p), some (V.int k), some (V.int x), none]) ∧ H' = H, ?_, ?_⟩
  · walk_at "go"
    refine i_d (fun c => ?_) fun c => ?_
    · walk_at "go"
      have c' : k < ns.length := by
        rw [List.length_map] at c
        omega
      refine g_ixSq hS (at_ints c') ?_
      walk_at "go"
      exact ⟨⟨_, rfl⟩, rfl⟩
    · walk_at "go"
      refine i_d (fun c => ?_) fun c => ?_
      · walk_at "go"
        have hn : (0 : Int) < ((ns.map V.int).length : Nat) := c
        have e : ((k : Int).fmod ((ns.map V.int).length : Nat)) = ((k % ns.length : Nat) : Int) := by
          rw [Int.fmod_eq_emod_of_nonneg _ (by omega), List.length_map]
          rfl
        have c' : k % ns.length < ns.length := Nat.mod_lt _ (by rw [List.length_map] at hn; omega)
        refine g_ixSq hS (by rw [e]; exact at_ints c') ?_
        walk_at "go"
        exact ⟨⟨_, rfl⟩, rfl⟩
      · walk_at "go"
        exact ⟨⟨_, rfl⟩, rfl⟩
  · rintro σ' H' ⟨⟨x, rfl⟩, rfl⟩
    walk_at "go"
    refine g_new fun a ha => ?_
    have h1 := @upd_same H' a (.lst [V.int 0, V.int x])
    walk_at "go"
    have fin : ∀ v : Int, atI [V.int 0, V.int x] (b2z (decide ((10 : Int) ^ Int.toNat 18 ≤ x))) = some (.int v) → _ := fun _ _ => True.intro
    have ev : ∃ v : Int, atI [V.int 0, V.int x] (b2z (decide ((10 : Int) ^ Int.toNat 18 ≤ x))) = some (.int v) := by
      by_cases c : (10 : Int) ^ Int.toNat 18 ≤ x
      · rw [decide_eq_true c]
        exact ⟨x, rfl⟩
      · rw [decide_eq_false c]
        exact ⟨0, rfl⟩
    obtain ⟨v, ev⟩ := ev
    refine g_ixL h1 ev ?_
    walk_at "go"
    refine g_new fun b hb => ?_
    have e1 : Ex H' (upd H' a (.lst [V.int 0, V.int x])) := Ex.new ha
    exact q _ _ (e1.free hb) (e1.trans (Ex.new hb)) ⟨_, _, _, upd_same⟩

theorem ok_law_take (T : Txt K mg) : FnOk P w K mg base (L2.CX P w) 1 T.a_law_take T.d_law_take ["_law_box_here", "_law_many"] spTake := by
  refine T.F_law_take.okX sc_law_take (fun vs H Q E h => ?_) (fun cdv A outer s H vs Q E hr h => ?_)
  · obtain ⟨p, m, rfl, _⟩ := h
    rfl
  obtain ⟨p, m, rfl, ⟨a, b, c, hp⟩, hm, hm2, q⟩ := h
  have hm0 : m ≠ 0 := by omega
  refine ⟨_, (pss_cons (ps_if (pt_cmpR uo_gt (pe_ix ux_seq (uv 0) pe_int (fun _ _ => rfl)) pe_int (nomark _)) (pss_cons (ps_set (i := 2) sc_law_take.nd rfl (by first | exact Or.inl rfl | exact Or.inr rfl) (pe_op uo_mod (pe_ix ux_seq (uv 0) pe_int (fun _ _ => rfl)) (uv 1)))
      (pss_cons (ps_asg (pe_op uo_fd (pe_ix ux_seq (uv 0) pe_int (fun _ _ => rfl)) (uv 1)) (pg_sub (uv 0) pe_int set_list))
      (pss_one (ps_ret (uv 2))))) pss_nil)
      (pss_cons (ps_asg (pe_op uo_add (pe_ix ux_seq (uv 0) pe_int (fun _ _ => rfl)) pe_int) (pg_sub (uv 0) pe_int set_list))
      (pss_cons (ps_set (i := 3) sc_law_take.nd rfl (by first | exact Or.inl rfl | exact Or.inr rfl) (pe_op uo_mod (pe_op uo_mul (pe_op uo_add (pe_ix ux_seq (uv 0) pe_int (fun _ _ => rfl)) (pe_op uo_mul pe_int (pe_ix ux_seq (uv 0) pe_int (fun _ _ => rfl)))) pe_int) pe_int))
      (pss_cons (ps_asg (pe_op uo_add (pe_op uo_mod (pe_op uo_add (pe_op uo_mul (uv 3) pe_int) pe_int) pe_int) pe_int) (pg_sub (uv 0) pe_int set_list))
      (pss_one (ps_ret (pe_op uo_mod (pe_op uo_fd (pe_op uo_add (pe_op uo_mul (uv 3) pe_int) (pe_ix ux_seq (uv 0) pe_int (fun _ _ => rfl))) pe_int) (uv 1)))))))), ?_⟩
  walk_at "go"
  refine i_d (fun c1 => ?_) fun c1 => ?_
  · walk_at "go"
    refine g_i ?_ ⟨hm0, hm2⟩
    walk_at "go"
    refine g_setL hp (by rfl) ?_
    walk_at "go"
    exact q _ _ (fmod_pos hm).1 (fmod_pos hm).2 (But.upd (But.refl _ _)) ⟨_, _, _, upd_same⟩
  · walk_at "go"
    refine g_setL hp (by rfl) ?_
    have h1 : upd H p (.lst ([V.int a, V.int b, V.int c].set 2 (.int (c + 1)))) p = some (.lst [.int a, .int b, .int (c + 1)]) := upd_same
    walk_at "go"
    refine g_setL h1 (by rfl) ?_
    have h2 := @upd_same (upd H p (.lst ([V.int a, V.int b, V.int c].set 2 (.int (c + 1))))) p (.lst ([V.int a, V.int b, V.int (c + 1)].set 1 (.int ((((b + 104729 * (c + 1)) * 69623).fmod 2147483647 * 48271 + 30103).fmod 2147483629 + 1))))
    walk_at "go"
    exact q _ _ (fmod_pos hm).1 (fmod_pos hm).2 ((But.refl _ _).upd.upd) ⟨_, _, _, h2⟩

theorem ok_law_makers (T : Txt K mg) : FnOk P w K mg base (L2.CX P w) 1 T.a_law_makers T.d_law_makers ["_law_wood_here"] spMakers := by
  refine T.F_law_makers.okX sc_law_makers (fun vs H Q E h => ?_) (fun cdv A outer s H vs Q E hr h => ?_)
  · obtain ⟨_, _, rfl, _⟩ := h
    rfl
  obtain ⟨wd, v, rfl, rv, ok, q⟩ := h
  refine ⟨_, (pss_cons (ps_set (i := 1) sc_law_makers.nd rfl (by first | exact Or.inl rfl | exact Or.inr rfl) (pe_lc (own := [("_law_kind", 8)]) (g := gName 8) rfl sc_law_makers.nd (ui_seq (uv 0)) (blkOk_by (own := [("_law_kind", 8)]) (N := N_law_makers) (sc := defScope s_law_makers) (by decide +kernel)) (fun _ _ _ _ _ => (pg_name (i := 8) sc_law_makers.nd rfl (by first | exact Or.inl rfl | exact Or.inr rfl))) (fun _ _ _ _ _ => pts_nil) (fun _ _ _ _ _ => (pe_ix (show IxR _ (uIx K) from ux_seq) (uv 8) pe_int (fun _ _ => rfl)))))
      (pss_cons (ps_set (i := 2) sc_law_makers.nd rfl (by first | exact Or.inl rfl | exact Or.inr rfl) (pe_lst pa_nil))
      (pss_cons (ps_for (passes_of rfl) rfl (ui_enum rfl T.z_enumerate (pa_cons (uv 0) pa_nil)) (pg_tup rfl (pgs_cons (pg_name (i := 3) sc_law_makers.nd rfl (by first | exact Or.inl rfl | exact Or.inr rfl)) (pgs_cons (pg_tup rfl (pgs_cons (pg_name (i := 4) sc_law_makers.nd rfl (by first | exact Or.inl rfl | exact Or.inr rfl)) (pgs_cons (pg_name (i := 5) sc_law_makers.nd rfl (by first | exact Or.inl rfl | exact Or.inr rfl)) pgs_nil))) pgs_nil))) (pss_one (ps_for (passes_of rfl) rfl (ui_seq (uv 5)) (pg_tup rfl (pgs_cons (pg_name (i := 6) sc_law_makers.nd rfl (by first | exact Or.inl rfl | exact Or.inr rfl)) (pgs_cons (pg_name (i := 7) sc_law_makers.nd rfl (by first | exact Or.inl rfl | exact Or.inr rfl)) pgs_nil))) (pss_one (ps_expr (pe_bm PySem.F.plainAttrs_list PySem.F.slot_list_append PySem.F.type_list_append mt_append (uv 2) (pa_cons (pe_tup (pa_cons (uv 6) (pa_cons (uv 3) (pa_cons (pe_callTy uk_tup rfl T.z_tuple boot_tuple (pa_cons (pe_lc (own := [("_law_part", 9)]) (g := gName 9) rfl sc_law_makers.nd (ui_seq (uv 7)) (blkOk_by (own := [("_law_part", 9)]) (N := N_law_makers) (sc := defScope s_law_makers) (by decide +kernel)) (fun _ _ _ _ _ => (pg_name (i := 9) sc_law_makers.nd rfl (by first | exact Or.inl rfl | exact Or.inr rfl))) (fun _ _ _ _ _ => pts_nil) (fun _ _ _ _ _ => (show PE _ _ (tBM K "list" (rIndex K) _ _) from (pe_bm PySem.F.plainAttrs_list PySem.F.slot_list_index PySem.F.type_list_index mt_index (uv 1) (pa_cons (uv 9) pa_nil))))) pa_nil)) pa_nil)))) pa_nil)))))))
      (pss_one (ps_ret (uv 2)))))), ?_⟩
  obtain ⟨a, xs, rfl, ha, rs⟩ := id rv.tupI
  have lx : xs.length = wd.length := by rw [rs.len, List.length_map]
  have pk := ok.kinds
  have pm := ok.many
  walk_at "go"
  refine g_seqTs ?_
  walk_at "go"
  refine ⟨_, rfl, ⟨xs, sqT ha⟩, fun kl hkl => ?_⟩
  refine lc_mapE walk_tup (fun j _ v => ∃ s, (wd.map Prod.fst)[j]? = some s ∧ v = V.str s) (by omega) hkl (fun _ _ _ _ _ r => r) (fun H2 e => sqT (e _ _ ha)) ?_ ?_
  · rintro j y H2 H3 P N hj e ⟨rfl, hy⟩ k
    obtain ⟨kd, b, c, ys, ek, rfl, hb, hc, _⟩ := wood_at rs hy
    walk_at "go"
    refine ⟨rfl, ?_⟩
    walk_at "go"
    refine g_ixT (i := 0) (e _ _ hb) rfl ?_
    exact k _ _ (Ex.refl _) ⟨kd.1, by rw [List.getElem?_map, ek]; rfl, rfl⟩
  intro H1 acc e1 hacc hla hr2
  have ea := acc_map (xs := wd.map Prod.fst) (f := V.str) (by rw [List.length_map]; omega) hr2
  subst ea
  walk_at "go"
  refine g_new fun l hl => ?_
  walk_at "go"
  have e2 := e1.trans (Ex.new (o := .lst []) hl)
  have hl0 := e1.free hl
  have nkl : kl ≠ l := fun z => by rw [z, hl] at hacc; cases hacc
  refine g_enT ?_
  walk_at "go"
  refine ⟨_, xs, rfl, sqT (e2 _ _ ha), ?_⟩
  refine for_it walk_enumT (fun i σ H2 => (∃ o3 o4 o5 o6 o7, σ = [some (.ref a), some (.ref kl), some (.ref l), o3, o4, o5, o6, o7, none, none]) ∧ Ex H1 H2 ∧ ∃ us, H2 l = some (.lst us) ∧ Dues wd H2 (tabFrom 0 (wd.take i)) us) ⟨⟨_, _, _, _, _, rfl⟩, Ex.new hl, [], upd_same, rfl, fun j v z => by simp at z⟩ (fun i σ H2 _ h => sqT ((e1.trans h.2.1) _ _ ha)) ?_ ?_
  · rintro i x σ H2 H2' hi ⟨⟨o3, o4, o5, o6, o7, rfl⟩, e3, us, hus, hD⟩ ⟨t, y, z, rfl, ht, rfl, ey, ez⟩
    cases ey
    obtain ⟨kd, b, c, ys, ekd, rfl, hb, hc, ry⟩ := wood_at rs ez
    have ly : ys.length = kd.2.length := by rw [ry.len, List.length_map]
    have e4 := Ex.new (o := .tup [.int (i : Nat), .ref b]) ht
    refine g_tup2 upd_same ?_
    walk_at "go"
    have e33 := e3.trans e4
    have e13 := e1.trans e33
    refine g_tup2 (e13 _ _ hb) ?_
    walk_at "go"
    have us4 := e4 _ _ hus
    have hmk : ∀ m ∈ kd.2, _ := ok.mkr kd (List.mem_of_getElem? ekd)
    have sp := tab_split wd 0 i kd ekd
    rw [Nat.zero_add] at sp
    have nm2 := pm
    rw [sp, List.length_append, List.length_append, List.length_map] at nm2
    have hc3 := e13 _ _ hc
    have D0 := hD.tk e4.tk
    clear e4
    revert e33 e13 us4 hc3 D0
    generalize upd H2 t (.tup [.int (i : Nat), .ref b]) = H3
    intro e33 e13 us4 hc3 D0
    refine g_seqTs ?_
    walk_at "go"
    refine ⟨_, rfl, ⟨ys, sqT hc3⟩, ?_⟩
    refine for_it walk_tup (fun j σ H4 => (∃ o6 o7, σ = [some (.ref a), some (.ref kl), some (.ref l), some (.int (i : Nat)), some (.str kd.1), some (.ref c), o6, o7, none, none]) ∧ Ex H1 H4 ∧ ∃ us, H4 l = some (.lst us) ∧ Dues wd H4 (tabFrom 0 (wd.take i) ++ (kd.2.take j).map fun m => (i, m)) us) ⟨⟨_, _, rfl⟩, e33, us, us4, by rw [List.take_zero, List.map_nil, List.append_nil]; exact D0⟩ (fun j σ H4 _ h => sqT ((e1.trans h.2.1) _ _ hc)) ?_ ?_
    · rintro j x σ H4 H4' hj ⟨⟨o6, o7, rfl⟩, e5, us, hus, hD⟩ ⟨rfl, hx⟩
      obtain ⟨m, b2, c2, em, rfl, hb2, hc2⟩ := mk_at ry hx
      have e15 := e1.trans e5
      have hm := hmk m (List.mem_of_getElem? em)
      refine g_tup2 (e15 _ _ hb2) ?_
      walk_at "go"
      refine g_seqTs ?_
      walk_at "go"
      refine ⟨_, rfl, ⟨_, sqT (e15 _ _ hc2)⟩, fun D2 hD2 => ?_⟩
      refine lc_mapE walk_tup (fun u _ v => ∃ s, m.2[u]? = some s ∧ v = .int (kno wd s)) (by rw [List.length_map]; omega) hD2 (fun _ _ _ _ _ r => r) (fun H7 e => sqT (e _ _ (e15 _ _ hc2))) ?_ ?_
      · rintro u y H7 H8 P2 N2 hu e7 ⟨rfl, hy2⟩ k2
        rw [List.getElem?_map] at hy2
        cases es : m.2[u]? with
        | none => rw [es] at hy2; cases hy2
        | some s =>
          rw [es] at hy2
          cases hy2
          walk_at "go"
          refine ⟨rfl, ?_⟩
          walk_at "go"
          have kl7 := (e5.trans e7) _ _ hacc
          refine g_tyL kl7 ?_
          walk_at "go"
          refine g_lidx ok.knd kl7 (hm.2.2 s (List.mem_of_getElem? es)) ?_
          exact k2 _ _ (Ex.refl _) ⟨s, es, rfl⟩
      intro H7 acc2 e7 hacc2 hla2 hr3
      rw [List.length_map] at hla2
      have ea := acc_map (xs := m.2) (f := fun s => V.int (kno wd s)) hla2 hr3
      subst ea
      walk_at "go"
      refine g_tupOf hacc2 fun t2 ht2 => ?_
      have f1 := Ex.new (o := .tup (m.2.map fun s => V.int (kno wd s))) ht2
      have h2 := @upd_same H7 t2 (.tup (m.2.map fun s => V.int (kno wd s)))
      revert f1 h2
      generalize upd H7 t2 (.tup (m.2.map fun s => V.int (kno wd s))) = H8
      intro f1 h2
      walk_at "go"
      refine g_new fun t3 ht3 => ?_
      have f2 := Ex.new (o := .tup [.str m.1, .int (i : Nat), .ref t2]) ht3
      have h3 := @upd_same H8 t3 (.tup [.str m.1, .int (i : Nat), .ref t2])
      have h23 := f2 _ _ h2
      revert f2 h3 h23
      generalize upd H8 t3 (.tup [.str m.1, .int (i : Nat), .ref t2]) = H9
      intro f2 h3 h23
      have e79 := e7.trans (f1.trans f2)
      have us9 := e79 _ _ hus
      have lu := hD.1
      rw [List.length_append, List.length_map, List.length_take] at lu
      walk_at "go"
      refine g_app us9 (Nat.lt_of_le_of_lt (by omega : us.length ≤ 1000) (by decide)) ?_
      have tu := tk_put (ys := us ++ [.ref t3]) us9
      walk_at "go"
      refine ⟨⟨_, _, rfl⟩, (e5.trans e79).at_new hl, _, upd_same, ?_⟩
      rw [take_at em, List.map_append, ← List.append_assoc]
      refine (hD.tk (e79.tk.trans tu)).app ⟨rfl, fun j v hj => ?_⟩
      cases j with
      | zero =>
        cases hj
        exact ⟨(i, m), rfl, t3, t2, rfl, tu _ _ h3, tu _ _ h23⟩
      | succ j => simp at hj
    · rintro σ H4 ⟨⟨o6, o7, rfl⟩, e5, us, hus, hD⟩
      rw [ly, List.take_length] at hD
      have tt := tab_take wd 0 i kd ekd
      rw [Nat.zero_add] at tt
      exact ⟨⟨_, _, _, _, _, rfl⟩, e5, us, hus, by rw [tt]; exact hD⟩
  · rintro σ H2 ⟨⟨o3, o4, o5, o6, o7, rfl⟩, e3, us, hus, hD⟩
    rw [lx, List.take_length] at hD
    walk_at "go"
    exact q _ _ us (e1.trans e3) hus hD

theorem ok_law_size (T : Txt K mg) : FnOk P w K mg base (L2.CX P w) 1 T.a_law_size T.d_law_size ["_law_tree_here"] spSizeT := by
  refine T.F_law_size.okX sc_law_size (fun vs H Q E h => ?_) (fun cdv A outer s H vs Q E hr h => ?_)
  · obtain ⟨_, _, rfl, _⟩ := h
    rfl
  obtain ⟨t, tv, rfl, rt, t0, t2, ok, q⟩ := h
  refine ⟨_, (pss_cons (ps_set (i := 1) sc_law_size.nd rfl (by first | exact Or.inl rfl | exact Or.inr rfl) (pe_lst pa_nil))
      (pss_cons (ps_for (passes_of rfl) rfl (ui_seq (uv 0)) (pg_tup rfl (pgs_cons (pg_name (i := 2) sc_law_size.nd rfl (by first | exact Or.inl rfl | exact Or.inr rfl)) (pgs_cons (pg_name (i := 3) sc_law_size.nd rfl (by first | exact Or.inl rfl | exact Or.inr rfl)) pgs_nil))) (pss_one (ps_expr (pe_bm PySem.F.plainAttrs_list PySem.F.slot_list_append PySem.F.type_list_append mt_append (uv 1) (pa_cons (pe_op uo_add pe_int (pe_callB (cr_sum rfl) rfl T.z_sum boot_sum (pa_cons (pe_lc (own := [("_law_n", 4)]) (g := gName 4) rfl sc_law_size.nd (ui_seq (uv 3)) (blkOk_by (own := [("_law_n", 4)]) (N := N_law_size) (sc := defScope s_law_size) (by decide +kernel)) (fun _ _ _ _ _ => (pg_name (i := 4) sc_law_size.nd rfl (by first | exact Or.inl rfl | exact Or.inr rfl))) (fun _ _ _ _ _ => pts_nil) (fun _ _ _ _ _ => (pe_ix (show IxR _ (uIx K) from ux_seq) (uv 1) (uv 4) (fun _ _ => rfl)))) pa_nil))) pa_nil)))))
      (pss_one (ps_ret (pe_ix ux_seq (uv 1) (pe_un uu_neg pe_int) (fun _ _ => rfl)))))), ?_⟩
  obtain ⟨ta, ts, rfl, hta, rts⟩ := id (Rep.tupI (show Rep H (.tup (t.map rowD)) tv from rt))
  have lts : ts.length = t.length := by rw [rts.len, List.length_map]
  walk_at "go"
  refine g_new fun F hF => ?_
  walk_at "go"
  refine g_seqTs ?_
  walk_at "go"
  refine ⟨_, rfl, ⟨_, sqT (Ex.new hF _ _ hta)⟩, ?_⟩
  refine for_it walk_tup (fun i σ H4 => (∃ o2 o3, σ = [some (.ref ta), some (.ref F), o2, o3, none]) ∧ Ex H H4 ∧ H4 F = some (.lst ((foldV 0 szf (t.take i)).map V.int))) ⟨⟨_, _, rfl⟩, Ex.new hF, upd_same⟩ (fun i σ H4 _ h => sqT (h.2.1 _ _ hta)) ?_ ?_
  · rintro i x σ H4 H4' hi ⟨⟨o2, o3, rfl⟩, e4, hfv⟩ ⟨rfl, hx⟩
    replace hx : ts[i]? = some x := hx
    obtain ⟨dd, hdd, rd⟩ := rts.get hx
    rw [List.getElem?_map] at hdd
    cases er : t[i]? with
    | none => rw [er] at hdd; cases hdd
    | some row =>
    rw [er] at hdd
    cases hdd
    have rix := ok i row er
    have li := (List.getElem?_eq_some_iff.1 er).1
    have lfv : (foldV 0 szf (t.take i)).length = i := by rw [foldV_len, List.length_take]; omega
    obtain ⟨rp, y, z, rfl, hrp, ry, rz⟩ := rd.twoI
    cases ry.strI
    obtain ⟨np, nv, rfl, hnp, rn⟩ := rz.tupI
    rw [rn.ints] at hnp
    refine g_tup2 (e4 _ _ hrp) ?_
    have hnp4 := e4 _ _ hnp
    walk_at "go"
    refine g_seqTs ?_
    walk_at "go"
    refine ⟨_, rfl, ⟨_, sqT hnp4⟩, fun D hD => ?_⟩
    have lrm : (row.2.map V.int).length = row.2.length := List.length_map _
    have two := rix.1
    refine lc_mapE walk_tup (fun u H8 v => ∃ n, row.2[u]? = some n ∧ v = V.int ((foldV 0 szf (t.take i)).getD n.toNat 0)) (by omega) hD (fun _ _ _ _ _ z => z) (fun H8 e => sqT (e _ _ hnp4)) ?_ ?_
    · rintro u y H8 H9 P N2 hu e8 ⟨rfl, hy⟩ k
      rw [List.getElem?_map] at hy
      cases en : row.2[u]? with
      | none => rw [en] at hy; cases hy
      | some n =>
      rw [en] at hy
      cases hy
      obtain ⟨n0, n1⟩ := rix.2 n (List.mem_of_getElem? en)
      obtain ⟨m, hm, em⟩ := atI_map V.int (l := foldV 0 szf (t.take i)) (j := n) n0 (by omega)
      walk_at "go"
      refine ⟨rfl, ?_⟩
      walk_at "go"
      refine g_ixL (e8 _ _ hfv) em ?_
      exact k _ _ (Ex.refl _) ⟨n, en, by rw [List.getD_eq_getElem?_getD, hm]; rfl⟩
    intro H5 acc e5 hacc hla hr2
    have ea := acc_mapN (xs := row.2) (f := fun n : Int => (foldV 0 szf (t.take i)).getD n.toNat 0) (by omega) hr2
    subst ea
    have hF5 := e5 _ _ hfv
    walk_at "go"
    refine ⟨_, _, rfl, sqL hacc, ?_⟩
    walk_at "go"
    refine g_app hF5 (Nat.lt_of_le_of_lt (by rw [List.length_map]; omega : _ ≤ 1000) (by decide)) ?_
    walk_at "go"
    refine ⟨⟨_, _, rfl⟩, (e4.trans e5).at_new hF, ?_⟩
    rw [upd_same, take_at er, foldV_snoc, List.map_append]
    rfl
  · rintro σ H4 ⟨⟨o2, o3, rfl⟩, e4, hfv⟩
    rw [lts, List.take_length] at hfv
    have lfv : (foldV 0 szf t).length = t.length := foldV_len
    walk_at "go"
    refine g_ixL hfv (atI_last (n := t.length - 1) (x := .int (szT t (t.length - 1))) (by rw [List.length_map]; omega) ?_) ?_
    · rw [List.getElem?_map]
      unfold szT
      rw [List.getD_eq_getElem?_getD, List.getElem?_eq_getElem (by omega)]
      rfl
    exact q _ e4

theorem ok_law_plain (T : Txt K mg) : FnOk P w K mg base (L2.CX P w) 1 T.a_law_plain T.d_law_plain ["_law_tree_here"] spPlain := by
  refine T.F_law_plain.okX sc_law_plain (fun vs H Q E h => ?_) (fun cdv A outer s H vs Q E hr h => ?_)
  · obtain ⟨_, _, rfl, _⟩ := h
    rfl
  obtain ⟨t, tv, rfl, rt, t0, t2, ok, q⟩ := h
  refine ⟨_, (pss_cons (ps_asg (pe_tup (pa_cons pe_dnewK (pa_cons (pe_lst pa_nil) (pa_cons pe_dnewK pa_nil)))) (pg_tup rfl (pgs_cons (pg_name (i := 1) sc_law_plain.nd rfl (by first | exact Or.inl rfl | exact Or.inr rfl)) (pgs_cons (pg_name (i := 2) sc_law_plain.nd rfl (by first | exact Or.inl rfl | exact Or.inr rfl)) (pgs_cons (pg_name (i := 3) sc_law_plain.nd rfl (by first | exact Or.inl rfl | exact Or.inr rfl)) pgs_nil)))))
      (pss_cons (ps_set (i := 4) sc_law_plain.nd rfl (by first | exact Or.inl rfl | exact Or.inr rfl) (pe_lst (pa_cons (pe_tup (pa_cons (pe_op uo_sub (pe_callB uk_len rfl T.z_len boot_len (pa_cons (uv 0) pa_nil)) pe_int) (pa_cons pe_bl pa_nil))) pa_nil)))
      (pss_cons (ps_while (passes_of rfl) (pt_cmpR uo_gt (pe_callB uk_len rfl T.z_len boot_len (pa_cons (uv 4) pa_nil)) pe_int (nomark _)) (pss_cons (ps_asg (pe_bm0 PySem.F.plainAttrs_list PySem.F.slot_list_pop PySem.F.type_list_pop mt_pop (uv 4)) (pg_tup rfl (pgs_cons (pg_name (i := 5) sc_law_plain.nd rfl (by first | exact Or.inl rfl | exact Or.inr rfl)) (pgs_cons (pg_name (i := 6) sc_law_plain.nd rfl (by first | exact Or.inl rfl | exact Or.inr rfl)) pgs_nil))))
      (pss_one (ps_if (PW.pt (pw_and (pt_not (ut (uv 6))) (pw_and1 (pt_cmp (pc_dnotin (hu_of hr) (uv 5) (uv 3)))))) (pss_cons (ps_expr (pe_bm PySem.F.plainAttrs_list PySem.F.slot_list_append PySem.F.type_list_append mt_append (uv 4) (pa_cons (pe_tup (pa_cons (uv 5) (pa_cons pe_bl pa_nil))) pa_nil)))
      (pss_one (ps_expr (pe_bm PySem.F.plainAttrs_list PySem.F.slot_list_extend PySem.F.type_list_extend mt_extend (uv 4) (pa_cons (pe_lc (own := [("_law_n", 8)]) (g := gName 8) rfl sc_law_plain.nd (RT.pi_revA rfl T.z_reversed (pe_ix ux_seq (pe_ix ux_seq (uv 0) (uv 5) (fun _ _ => rfl)) pe_int (fun _ _ => rfl))) (blkOk_by (own := [("_law_n", 8)]) (N := N_law_plain) (sc := defScope s_law_plain) (by decide +kernel)) (fun _ _ _ _ _ => (pg_name (i := 8) sc_law_plain.nd rfl (by first | exact Or.inl rfl | exact Or.inr rfl))) (fun _ _ _ _ _ => pts_nil) (fun _ _ _ _ _ => (pe_tup (pa_cons (uv 8) (pa_cons pe_bl pa_nil))))) pa_nil))))) (pss_one (ps_if (PW.pt (pw_and (ut (uv 6)) (pw_and1 (pt_cmp (pc_dnotin (hu_of hr) (uv 5) (uv 3)))))) (pss_cons (ps_set (i := 7) sc_law_plain.nd rfl (by first | exact Or.inl rfl | exact Or.inr rfl) (pe_tup (pa_cons (pe_ix ux_seq (pe_ix ux_seq (uv 0) (uv 5) (fun _ _ => rfl)) pe_int (fun _ _ => rfl)) (pa_cons (pe_callTy uk_tup rfl T.z_tuple boot_tuple (pa_cons (pe_lc (own := [("_law_n", 8)]) (g := gName 8) rfl sc_law_plain.nd (ui_seq (pe_ix ux_seq (pe_ix ux_seq (uv 0) (uv 5) (fun _ _ => rfl)) pe_int (fun _ _ => rfl))) (blkOk_by (own := [("_law_n", 8)]) (N := N_law_plain) (sc := defScope s_law_plain) (by decide +kernel)) (fun _ _ _ _ _ => (pg_name (i := 8) sc_law_plain.nd rfl (by first | exact Or.inl rfl | exact Or.inr rfl))) (fun _ _ _ _ _ => pts_nil) (fun _ _ _ _ _ => (pe_dget (hu_of hr) (uv 3) (uv 8) (fun _ _ => rfl)))) pa_nil)) pa_nil))))
      (pss_cons (ps_if (pt_cmp (pc_nnotin hr.units (uv 7) (uv 1))) (pss_cons (ps_nput hr.units (uv 1) (uv 7) (pe_callB uk_len rfl T.z_len boot_len (pa_cons (uv 2) pa_nil)) rfl)
      (pss_one (ps_expr (pe_bm PySem.F.plainAttrs_list PySem.F.slot_list_append PySem.F.type_list_append mt_append (uv 2) (pa_cons (uv 7) pa_nil))))) pss_nil)
      (pss_one (ps_dput (hu_of hr) (uv 3) (uv 5) (pe_nget hr.units (uv 1) (uv 7) (fun _ _ => rfl)) rfl)))) pss_nil))))))
      (pss_one (ps_ret (pe_callTy uk_tup rfl T.z_tuple boot_tuple (pa_cons (uv 2) pa_nil))))))), ?_⟩
  obtain ⟨ta, ts, rfl, hta, rts⟩ := id (Rep.tupI (show Rep H (.tup (t.map rowD)) tv from rt))
  have lts : ts.length = t.length := by rw [rts.len, List.length_map]
  walk_at "go"
  intro NU hNU
  have f1 := Ex.new (o := .dK []) hNU
  walk_at "go"
  refine g_new fun RW hRW => ?_
  have f2 := Ex.new (o := .lst []) hRW
  walk_at "go"
  intro OW hOW
  have f3 := Ex.new (o := .dK []) hOW
  walk_at "go"
  refine g_new fun PT hPT => ?_
  have f4 := Ex.new (o := .tup [.ref NU, .ref RW, .ref OW]) hPT
  refine g_tup3 upd_same ?_
  have nNR : NU ≠ RW := ne_of_none upd_same hRW
  have nNO : NU ≠ OW := ne_of_none (f2 _ _ upd_same) hOW
  have nRO : RW ≠ OW := ne_of_none upd_same hOW
  have hN0 := hNU
  have hR0 := f1.free hRW
  have hO0 := (f1.trans f2).free hOW
  have e4 := (f1.trans f2).trans (f3.trans f4)
  have aN := f4 _ _ (f3 _ _ (f2 _ _ (@upd_same H NU (.dK []))))
  have aR := f4 _ _ (f3 _ _ (@upd_same (upd H NU (.dK [])) RW (.lst [])))
  have aO := f4 _ _ (@upd_same (upd (upd H NU (.dK [])) RW (.lst [])) OW (.dK []))
  clear f1 f2 f3 f4
  revert e4 aN aR aO
  generalize upd (upd (upd (upd H NU (.dK [])) RW (.lst [])) OW (.dK [])) PT (.tup [.ref NU, .ref RW, .ref OW]) = H4
  intro e4 aN aR aO
  walk_at "go"
  refine g_lenT (e4 _ _ hta) ?_
  walk_at "go"
  refine g_new fun q0 hq0 => ?_
  walk_at "go"
  refine g_new fun LF hLF => ?_
  walk_at "go"
  have g1 := Ex.new (o := .tup [.int ((ts.length : Nat) - 1), .bl false]) hq0
  have g2 := Ex.new (o := .lst [.ref q0]) hLF
  have e5 := e4.trans (g1.trans g2)
  have hL0 := (e4.trans g1).free hLF
  have aN5 := g2 _ _ (g1 _ _ aN)
  have aR5 := g2 _ _ (g1 _ _ aR)
  have aO5 := g2 _ _ (g1 _ _ aO)
  have nNL : NU ≠ LF := ne_of_none (g1 _ _ aN) hLF
  have nRL : RW ≠ LF := ne_of_none (g1 _ _ aR) hLF
  have nOL : OW ≠ LF := ne_of_none (g1 _ _ aO) hLF
  have aq := g2 _ _ (@upd_same H4 q0 (.tup [.int ((ts.length : Nat) - 1), .bl false]))
  have aL := @upd_same (upd H4 q0 (.tup [.int ((ts.length : Nat) - 1), .bl false])) LF (.lst [.ref q0])
  rw [show (((ts.length : Nat) : Int) - 1) = ((t.length - 1 : Nat) : Int) by omega] at e5 aN5 aR5 aO5 aq aL ⊢
  clear g1 g2
  revert e5 aN5 aR5 aO5 aq aL
  generalize upd (upd H4 q0 (.tup [.int ((t.length - 1 : Nat) : Int), .bl false])) LF (.lst [.ref q0]) = H5
  intro e5 aN5 aR5 aO5 aq aL
  refine g_while (fun m σ H1 => (∃ o5 o6 o7, σ = [some (.ref ta), some (.ref NU), some (.ref RW), some (.ref OW), some (.ref LF), o5, o6, o7, none]) ∧ ∃ (k : Nat) (ps : List (Mark × Addr × V)) (xs : List V), Ex H H1 ∧ PInv t (runP t k) ∧ m = measP t (runP t k) ∧ measP t (runP t k) ≤ 900 ∧ NdAt P w H1 NU ps ∧ ps.map (·.1) = (runP t k).rows ∧ (∀ (i : Nat) (p : Mark × Addr × V), ps[i]? = some p → p.2.2 = .int (i : Nat)) ∧ H1 RW = some (.lst (ps.map fun p => V.ref p.2.1)) ∧ H1 OW = some (.dK (ownK (runP t k).own)) ∧ H1 LF = some (.lst xs) ∧ LfAt H1 (runP t k).left xs) _ ⟨⟨_, _, _, rfl⟩, 0, [], [.ref q0], e5, PInv.start t0, rfl, by
    have := cnt_le (t := t) (left := [(t.length - 1, false)]) (own := [])
    show 1 + 4 * cntP t [(t.length - 1, false)] [] ≤ 900
    omega, ⟨.inr ⟨rfl, aN5⟩, fun p z => (nomatch z)⟩, rfl, fun i p z => by simp at z, aR5, aO5, aL, [], q0, rfl, aq, rfl⟩ ?_
  rintro m σ H1 ⟨⟨o5, o6, o7, rfl⟩, k, ps, xs, e1, inv, rfl, m9, nd, pm, pv, hRW1, hOW1, hLF1, lf⟩
  walk_at "go"
  have stp : runP t (k + 1) = stepP t (runP t k) := rfl
  have hnx : (runP t k).left ≠ [] → PInv t (runP t (k + 1)) ∧ measP t (runP t (k + 1)) < measP t (runP t k) := fun z => inv.step ok z
  obtain ⟨so, sr⟩ := inv.sizes
  have lps : ps.length = (runP t k).rows.length := by rw [← pm, List.length_map]
  have llf := lf.len
  have lmax : (runP t k).left.length ≤ 900 := by
    unfold measP at m9
    omega
  have inv0 := inv
  have hstk := inv.stk
  have hown := inv.ownl
  have hpart := inv.part
  clear inv
  generalize hs' : runP t (k + 1) = s' at stp hnx
  generalize hs : runP t k = s at inv0 m9 stp hnx so sr lps llf lmax hstk hown hpart lf hOW1 pm
  obtain ⟨left, rows, own⟩ := s
  refine i_d (fun c => g_wn ?_) fun c => ?_
  · cases left with
    | nil =>
      rw [show xs = [] from lf] at c
      exact absurd c (by decide)
    | cons pt left =>
    obtain ⟨a, b⟩ := pt
    obtain ⟨xs1, qd, rfl, hqd, lf1⟩ := lf
    obtain ⟨inv', mlt⟩ := hnx (fun z => nomatch z)
    have la := hstk (a, b) List.mem_cons_self
    replace la : a < t.length := la
    obtain ⟨r, er⟩ : ∃ r, t[a]? = some r := ⟨_, List.getElem?_eq_getElem la⟩
    have ra := rowAt_eq er
    have rix := ok a r er
    walk_at "go"
    refine g_pop hLF1 ?_
    have t2 := tk_put (ys := xs1) hLF1
    have e2 : Ex H (upd H1 LF (.lst xs1)) := e1.at_new hL0
    have nd2 : NdAt P w (upd H1 LF (.lst xs1)) NU ps := nd.keep (upd_ne nNL) t2
    have hR2 : (upd H1 LF (.lst xs1)) RW = some (.lst (ps.map fun p => V.ref p.2.1)) := by rw [upd_ne nRL]; exact hRW1
    have hO2 : (upd H1 LF (.lst xs1)) OW = some (.dK (ownK own)) := by rw [upd_ne nOL]; exact hOW1
    have hL2 := @upd_same H1 LF (.lst xs1)
    have lf2 := lf1.tk t2
    have hqd2 := t2 _ _ hqd
    revert e2 nd2 hR2 hO2 hL2 lf2 hqd2
    clear t2 nd hRW1 hOW1 hLF1 lf1 hqd e1
    generalize upd H1 LF (.lst xs1) = H2
    intro e2 nd2 hR2 hO2 hL2 lf2 hqd2
    refine g_tup2 hqd2 ?_
    have lx1 := lf2.len
    obtain ⟨v0, ev0, rv0⟩ := rts.at (i := a) (d := rowD r) (by rw [List.getElem?_map, er]; rfl)
    obtain ⟨rp, y, z, rfl, hrp, ry, rz⟩ := rv0.twoI
    cases ry.strI
    obtain ⟨np, nv, rfl, hnp, rn⟩ := rz.tupI
    rw [rn.ints] at hnp
    have keep : ∀ (H3 : Hp) (o7' : Option V) (ps' : List (Mark × Addr × V)) (xs' : List V), Ex H H3 → NdAt P w H3 NU ps' → ps'.map (·.1) = s'.rows → (∀ (i : Nat) (p : Mark × Addr × V), ps'[i]? = some p → p.2.2 = .int (i : Nat)) → H3 RW = some (.lst (ps'.map fun p => V.ref p.2.1)) → H3 OW = some (.dK (ownK s'.own)) → H3 LF = some (.lst xs') → LfAt H3 s'.left xs' →
        ∃ m', m' < measP t ⟨(a, b) :: left, rows, own⟩ ∧ (∃ o5 o6 o7, [some (.ref ta), some (.ref NU), some (.ref RW), some (.ref OW), some (.ref LF), some (.int (a : Nat)), some (.bl b), o7', none] = [some (.ref ta), some (.ref NU), some (.ref RW), some (.ref OW), some (.ref LF), o5, o6, o7, none]) ∧ ∃ (k : Nat) (ps : List (Mark × Addr × V)) (xs : List V), Ex H H3 ∧ PInv t (runP t k) ∧ m' = measP t (runP t k) ∧ measP t (runP t k) ≤ 900 ∧ NdAt P w H3 NU ps ∧ ps.map (·.1) = (runP t k).rows ∧ (∀ (i : Nat) (p : Mark × Addr × V), ps[i]? = some p → p.2.2 = .int (i : Nat)) ∧ H3 RW = some (.lst (ps.map fun p => V.ref p.2.1)) ∧ H3 OW = some (.dK (ownK (runP t k).own)) ∧ H3 LF = some (.lst xs) ∧ LfAt H3 (runP t k).left xs :=
      fun H3 o7' ps' xs' x1 x2 x3 x4 x5 x6 x7 x8 => ⟨_, mlt, ⟨_, _, _, rfl⟩, k + 1, ps', xs', x1, by rw [hs']; exact inv', by rw [hs'], by rw [hs']; exact Nat.le_of_lt (Nat.lt_of_lt_of_le mlt m9), x2, by rw [hs']; exact x3, x4, x5, by rw [hs']; exact x6, x7, by rw [hs']; exact x8⟩
    cases b with
    | false =>
      walk_at "go"
      refine g_diI hO2 ?_
      rw [valV_own]
      cases c1 : ownAt own a with
      | some kk =>
        rw [stepP_there c1] at stp
        subst stp
        walk_at "go"
        refine i_F rfl ?_
        walk_at "go"
        exact keep H2 _ ps xs1 e2 nd2 pm pv hR2 hO2 hL2 lf2
      | none =>
        rw [stepP_open c1, ra] at stp
        subst stp
        walk_at "go"
        refine g_new fun q1 hq1 => ?_
        have k1 := Ex.new (o := .tup [.int (a : Nat), .bl true]) hq1
        have aq1 := @upd_same H2 q1 (.tup [.int (a : Nat), .bl true])
        have t3 := k1.tk
        have e3 := e2.trans k1
        have nd3 := nd2.keep (upd_ne (ne_of_none (nd2.at_some) hq1)) t3
        have hR3 := k1 _ _ hR2
        have hO3 := k1 _ _ hO2
        have hL3 := k1 _ _ hL2
        have lf3 := lf2.tk t3
        revert aq1 e3 nd3 hR3 hO3 hL3 lf3
        clear t3 k1 hR2 hO2 hL2 lf2 nd2 e2 hqd2
        generalize upd H2 q1 (.tup [.int (a : Nat), .bl true]) = H3
        intro aq1 e3 nd3 hR3 hO3 hL3 lf3
        walk_at "go"
        refine g_app hL3 (Nat.lt_of_le_of_lt (by rw [List.length_append, List.length_singleton] at llf; replace llf : xs1.length + 1 = left.length + 1 := llf; replace lmax : left.length + 1 ≤ 900 := lmax; omega : xs1.length ≤ 1000) (by decide)) ?_
        have t4 := tk_put (ys := xs1 ++ [.ref q1]) hL3
        have e4 : Ex H (upd H3 LF (.lst (xs1 ++ [.ref q1]))) := e3.at_new hL0
        have nd4 : NdAt P w (upd H3 LF (.lst (xs1 ++ [.ref q1]))) NU ps := nd3.keep (upd_ne nNL) t4
        have hR4 : (upd H3 LF (.lst (xs1 ++ [.ref q1]))) RW = some (.lst (ps.map fun p => V.ref p.2.1)) := by rw [upd_ne nRL]; exact hR3
        have hO4 : (upd H3 LF (.lst (xs1 ++ [.ref q1]))) OW = some (.dK (ownK own)) := by rw [upd_ne nOL]; exact hO3
        have hL4 := @upd_same H3 LF (.lst (xs1 ++ [.ref q1]))
        have lf4 : LfAt (upd H3 LF (.lst (xs1 ++ [.ref q1]))) ((a, true) :: left) (xs1 ++ [.ref q1]) := ⟨xs1, q1, rfl, t4 _ _ aq1, lf3.tk t4⟩
        revert e4 nd4 hR4 hO4 hL4 lf4
        clear t4 hR3 hO3 hL3 lf3 nd3 e3 aq1
        generalize upd H3 LF (.lst (xs1 ++ [.ref q1])) = H4
        intro e4 nd4 hR4 hO4 hL4 lf4
        walk_at "go"
        refine g_revA ?_
        walk_at "go"
        refine g_ixT (e4 _ _ hta) (atI_nat ev0) ?_
        walk_at "go"
        refine g_ixT (i := 1) (e4 _ _ hrp) rfl ?_
        have lrm : (r.2.map V.int).length = r.2.length := List.length_map _
        have r2 := rix.1
        refine ⟨np, _, rfl, .inr ⟨sqT (e4 _ _ hnp), fun D hD => ?_⟩⟩
        refine lc_mapE walk_revT (fun j H8 v => ∃ (qq : Addr) (p : Nat × Bool), v = .ref qq ∧ (r.2.map (fun n : Int => (n.toNat, false)))[(r.2.map (fun n : Int => (n.toNat, false))).length - 1 - j]? = some p ∧ H8 qq = some (.tup [.int (p.1 : Nat), .bl p.2])) (by omega) hD (fun _ _ _ _ tt z => by
          obtain ⟨qq, p, z1, z2, z3⟩ := z
          exact ⟨qq, p, z1, z2, tt _ _ z3⟩) (fun H8 e8 => sqT (e8 _ _ (e4 _ _ hnp))) ?_ ?_
        · rintro j x H8 H9 P N hj e8 ⟨rfl, hx⟩ kk
          rw [List.length_map] at hx
          rw [List.getElem?_map] at hx
          cases en : r.2[r.2.length - 1 - j]? with
          | none => rw [en] at hx; cases hx
          | some n =>
          rw [en] at hx
          cases hx
          have n0 := (rix.2 n (List.mem_of_getElem? en)).1
          walk_at "go"
          refine ⟨rfl, ?_⟩
          walk_at "go"
          refine g_new fun qq hqq => ?_
          refine kk _ _ (Ex.new hqq) ⟨qq, (n.toNat, false), rfl, by rw [List.length_map, List.getElem?_map, en]; rfl, ?_⟩
          rw [upd_same]
          show some (HO.tup [V.int n, V.bl false]) = some (HO.tup [V.int ((n.toNat : Nat) : Int), V.bl false])
          rw [show ((n.toNat : Nat) : Int) = n by omega]
        intro H5 acc e5' hacc hla hr2
        have hL5 := e5' _ _ hL4
        walk_at "go"
        refine g_ext hL5 hacc (by rw [List.length_append, List.length_singleton] at llf ⊢; replace llf : xs1.length + 1 = left.length + 1 := llf; replace lmax : left.length + 1 ≤ 900 := lmax; omega) ?_
        have t6 := tk_put (ys := xs1 ++ [.ref q1] ++ acc) hL5
        walk_at "go"
        refine keep _ _ ps _ ((e4.trans e5').at_new hL0) ((nd4.keep (nd4.ex e5') e5'.tk).keep (upd_ne nNL) t6) pm pv (by rw [upd_ne nRL]; exact e5' _ _ hR4) (by rw [upd_ne nOL]; exact e5' _ _ hO4) upd_same ?_
        refine ((lf4.tk e5'.tk).ext (by rw [List.length_map]; omega) fun j v hj => ?_).tk t6
        exact hr2 j v hj
    | true =>
      walk_at "go"
      refine g_diI hO2 ?_
      rw [valV_own]
      cases c1 : ownAt own a with
      | some kk =>
        rw [stepP_there c1] at stp
        subst stp
        walk_at "go"
        refine i_F rfl ?_
        walk_at "go"
        exact keep H2 _ ps xs1 e2 nd2 pm pv hR2 hO2 hL2 lf2
      | none =>
        walk_at "go"
        have hparts : ∀ n ∈ r.2, ∃ kk, ownAt own n.toNat = some kk := fun n hn => by
          rcases hpart [] left a rfl n (by rw [ra]; exact hn) with z | ⟨_, z⟩
          · exact Option.isSome_iff_exists.1 z
          · cases z
        have hno := hown
        refine i_T rfl ?_
        walk_at "go"
        refine g_ixT (e2 _ _ hta) (atI_nat ev0) ?_
        walk_at "go"
        refine g_ixT (i := 0) (e2 _ _ hrp) rfl ?_
        walk_at "go"
        refine g_seqTs ?_
        walk_at "go"
        refine g_ixT (e2 _ _ hta) (atI_nat ev0) ?_
        walk_at "go"
        refine g_ixT (i := 1) (e2 _ _ hrp) rfl ?_
        have lrm : (r.2.map V.int).length = r.2.length := List.length_map _
        have r2 := rix.1
        refine ⟨_, rfl, ⟨_, sqT (e2 _ _ hnp)⟩, fun D hD => ?_⟩
        refine lc_mapE walk_tup (fun j H8 v => ∃ n, r.2[j]? = some n ∧ v = .int (((ownAt own n.toNat).getD 0 : Nat) : Int)) (by omega) hD (fun _ _ _ _ _ z => z) (fun H8 e8 => sqT (e8 _ _ (e2 _ _ hnp))) ?_ ?_
        · rintro j x H8 H9 P N hj e8 ⟨rfl, hx⟩ kk
          rw [List.getElem?_map] at hx
          cases en : r.2[j]? with
          | none => rw [en] at hx; cases hx
          | some n =>
          rw [en] at hx
          cases hx
          have n0 := (rix.2 n (List.mem_of_getElem? en)).1
          obtain ⟨on, hon⟩ := hparts n (List.mem_of_getElem? en)
          walk_at "go"
          refine ⟨rfl, ?_⟩
          walk_at "go"
          refine g_dgI (v := .int (on : Nat)) (e8 _ _ hO2) (by
            have := valV_own n.toNat own
            rw [show ((n.toNat : Nat) : Int) = n by omega, hon] at this
            exact this) ?_
          exact kk _ _ (Ex.refl _) ⟨n, en, by rw [hon]; rfl⟩
        intro H5 acc e5' hacc hla hr2
        have ea := acc_map (xs := r.2) (f := fun n : Int => V.int (((ownAt own n.toNat).getD 0 : Nat) : Int)) (by omega) hr2
        obtain ⟨m, em⟩ : ∃ m, m = markOf t own a := ⟨_, rfl⟩
        have em2 : m = (r.1, r.2.map fun n => (((ownAt own n.toNat).getD 0 : Nat) : Int)) := by rw [em]; unfold markOf; rw [ra]
        have ea2 : acc = m.2.map V.int := by rw [ea, em2, List.map_map]; rfl
        subst ea2
        have em1 : r.1 = m.1 := by rw [em2]
        walk_at "go"
        refine g_tupOf hacc fun t5 ht5 => ?_
        have k5 := Ex.new (o := .tup (m.2.map V.int)) ht5
        have at5 := @upd_same H5 t5 (.tup (m.2.map V.int))
        walk_at "go"
        refine g_new fun mq hmq => ?_
        have k6 := Ex.new (o := .tup [.str r.1, .ref t5]) hmq
        have e26 := e5'.trans (k5.trans k6)
        have mk6 : MarkAt (upd (upd H5 t5 (.tup (m.2.map V.int))) mq (.tup [.str r.1, .ref t5])) mq m := ⟨t5, by rw [upd_same, em1], k6 _ _ at5⟩
        have nd6 := nd2.keep (nd2.ex e26) e26.tk
        have hR6 := e26 _ _ hR2
        have hO6 := e26 _ _ hO2
        have hL6 := e26 _ _ hL2
        have lf6 := lf2.tk e26.tk
        have e6 := e2.trans e26
        revert mk6 nd6 hR6 hO6 hL6 lf6 e6
        clear k5 k6 at5 e26
        generalize upd (upd H5 t5 (.tup (m.2.map V.int))) mq (.tup [.str r.1, .ref t5]) = H6
        intro mk6 nd6 hR6 hO6 hL6 lf6 e6
        have pm' : ps.map (·.1) = rows := pm
        have ev : valV (kvm ps) m = (markIx rows m).map fun k => V.int ((0 + k : Nat) : Int) := by
          have := valV_marks (m := m) ps 0 (fun i p hp => by rw [pv i p hp, Nat.zero_add])
          rw [pm'] at this
          exact this
        have lown : own.length ≤ 200 := by replace so : own.length ≤ t.length := so; omega
        have lrows : ps.length ≤ 200 := by replace sr : rows.length ≤ t.length := sr; replace lps : ps.length = rows.length := lps; omega
        walk_at "go"
        refine ⟨NU, mq, ps, m, rfl, rfl, nd6, mk6, ?_⟩
        rw [ev]
        walk_at "go"
        cases cm : markIx rows m with
        | some kk =>
          rw [em] at cm
          rw [stepP_old c1 cm] at stp
          subst stp
          refine i_F rfl ?_
          walk_at "go"
          refine ⟨NU, mq, ps, m, .int (kk : Nat), rfl, rfl, nd6, mk6, by rw [ev, em, cm, Option.map_some, Nat.zero_add], ?_⟩
          walk_at "go"
          refine g_dpI hO6 (by unfold ownK; rw [List.length_map]; omega) ?_
          rw [ownK_put c1]
          have t7 : Tk H6 (upd H6 OW (.dK (ownK (own ++ [(a, kk)])))) := fun b ys z => by
            rw [upd_ne (ne_of z hO6 (fun y => nomatch y))]
            exact z
          exact keep _ _ ps xs1 (e6.at_new hO0) (nd6.keep (upd_ne nNO) t7) pm pv (by rw [upd_ne nRO]; exact hR6) upd_same (by rw [upd_ne (Ne.symm nOL)]; exact hL6) (lf6.tk t7)
        | none =>
          rw [em] at cm
          rw [stepP_new c1 cm, ← em] at stp
          subst stp
          rw [← em] at cm
          have vnone : valV (kvm ps) m = none := by rw [ev, cm]; rfl
          refine i_T rfl ?_
          walk_at "go"
          refine g_np ?_
          walk_at "go"
          refine g_npD (P := P) (w := w) nd6 mk6 vnone (by omega) ?_
          rw [List.length_map]
          obtain ⟨ps', eps⟩ : ∃ ps', ps' = ps ++ [(m, mq, V.int (ps.length : Nat))] := ⟨_, rfl⟩
          have nd7 := nd6.snoc mk6 (V.int (ps.length : Nat))
          rw [← eps] at nd7 ⊢
          have t7 : Tk H6 (upd H6 NU (NdO P w NU ps')) := fun b ys z => by
            rw [upd_ne (nd6.notTup b ys z)]
            exact z
          have mk7 := mk6.tk t7
          have hR7 : (upd H6 NU (NdO P w NU ps')) RW = some (.lst (ps.map fun p => V.ref p.2.1)) := by rw [upd_ne (Ne.symm nNR)]; exact hR6
          have hO7 : (upd H6 NU (NdO P w NU ps')) OW = some (.dK (ownK own)) := by rw [upd_ne (Ne.symm nNO)]; exact hO6
          have hL7 : (upd H6 NU (NdO P w NU ps')) LF = some (.lst xs1) := by rw [upd_ne (Ne.symm nNL)]; exact hL6
          have lf7 := lf6.tk t7
          have e7 : Ex H (upd H6 NU (NdO P w NU ps')) := e6.at_new hN0
          revert nd7 mk7 hR7 hO7 hL7 lf7 e7
          clear t7 nd6 mk6 hR6 hO6 hL6 lf6 e6
          generalize upd H6 NU (NdO P w NU ps') = H7
          intro nd7 mk7 hR7 hO7 hL7 lf7 e7
          walk_at "go"
          refine g_app hR7 (Nat.lt_of_le_of_lt (by rw [List.length_map]; omega : (ps.map fun p => V.ref p.2.1).length ≤ 1000) (by decide)) ?_
          rw [show (ps.map (fun p => V.ref p.2.1)) ++ [V.ref mq] = ps'.map (fun p => V.ref p.2.1) by rw [eps, List.map_append]; rfl]
          have t8 := tk_put (ys := ps'.map fun p => V.ref p.2.1) hR7
          have nd8 : NdAt P w (upd H7 RW (.lst (ps'.map fun p => V.ref p.2.1))) NU ps' := nd7.keep (upd_ne nNR) t8
          have mk8 := mk7.tk t8
          have hR8 := @upd_same H7 RW (.lst (ps'.map fun p => V.ref p.2.1))
          have hO8 : (upd H7 RW (.lst (ps'.map fun p => V.ref p.2.1))) OW = some (.dK (ownK own)) := by rw [upd_ne (Ne.symm nRO)]; exact hO7
          have hL8 : (upd H7 RW (.lst (ps'.map fun p => V.ref p.2.1))) LF = some (.lst xs1) := by rw [upd_ne (Ne.symm nRL)]; exact hL7
          have lf8 := lf7.tk t8
          have e8 : Ex H (upd H7 RW (.lst (ps'.map fun p => V.ref p.2.1))) := e7.at_new hR0
          revert nd8 mk8 hR8 hO8 hL8 lf8 e8
          clear t8 nd7 mk7 hR7 hO7 hL7 lf7 e7
          generalize upd H7 RW (.lst (ps'.map fun p => V.ref p.2.1)) = H8
          intro nd8 mk8 hR8 hO8 hL8 lf8 e8
          have pm8 : ps'.map (·.1) = rows ++ [m] := by rw [eps, List.map_append, pm']; rfl
          have pv8 : ∀ (i : Nat) (p : Mark × Addr × V), ps'[i]? = some p → p.2.2 = .int (i : Nat) := fun i p hp => by
            rw [eps] at hp
            by_cases ci : i < ps.length
            · rw [List.getElem?_append_left ci] at hp
              exact pv i p hp
            · rw [List.getElem?_append_right (by omega)] at hp
              have ei : i = ps.length := by
                have := (List.getElem?_eq_some_iff.1 hp).1
                rw [List.length_singleton] at this
                omega
              subst ei
              rw [Nat.sub_self] at hp
              cases hp
              rfl
          have ev8 : valV (kvm ps') m = some (V.int (rows.length : Nat)) := by
            rw [eps, kvm_app, L2.valV_snoc m m _ _ vnone, if_pos rfl, ← pm', List.length_map]
          walk_at "go"
          refine ⟨NU, mq, ps', m, .int (rows.length : Nat), rfl, rfl, nd8, mk8, ev8, ?_⟩
          walk_at "go"
          refine g_dpI hO8 (by unfold ownK; rw [List.length_map]; omega) ?_
          rw [ownK_put c1]
          have t9 : Tk H8 (upd H8 OW (.dK (ownK (own ++ [(a, rows.length)])))) := fun b ys z => by
            rw [upd_ne (ne_of z hO8 (fun y => nomatch y))]
            exact z
          exact keep _ _ ps' xs1 (e8.at_new hO0) (nd8.keep (upd_ne nNO) t9) pm8 pv8 (by rw [upd_ne nRO]; exact hR8) upd_same (by rw [upd_ne (Ne.symm nOL)]; exact hL8) (lf8.tk t9)
  · have exs : xs = [] := by
      cases xs with
      | nil => rfl
      | cons x xs => exact absurd (show (0 : Int) < (((x :: xs).length : Nat) : Int) from Int.ofNat_lt.2 (Nat.succ_pos _)) c
    subst exs
    have el : left = [] := List.eq_nil_of_length_eq_zero (by rw [← show _ = left.length from llf]; rfl)
    walk_at "go"
    refine g_tupOf hRW1 fun u hu => ?_
    have ku := Ex.new (o := .tup (ps.map fun p => V.ref p.2.1)) hu
    refine q k _ _ (by rw [hs]; exact el) (by rw [hs]; exact inv0) (e1.trans ku) ?_
    rw [hs]
    refine Rep.tupO upd_same ?_
    rw [← show ps.map (·.1) = rows from pm]
    exact marks_reps ps fun p hp => (nd.2 p hp).tk ku.tk

theorem ok_law_alike (T : Txt K mg) : FnOk P w K mg base (L2.CX P w) 1 T.a_law_alike T.d_law_alike ["_law_found", "_law_due"] spAlike := by
  refine T.F_law_alike.okX sc_law_alike (fun vs H Q E h => ?_) (fun cdv A outer s H vs Q E hr h => ?_)
  · obtain ⟨_, _, _, rfl, _⟩ := h
    rfl
  obtain ⟨dd, v0, w0, rfl, rv, rw', hsz, q⟩ := h
  refine ⟨_, (pss_cons (ps_set (i := 2) sc_law_alike.nd rfl (by first | exact Or.inl rfl | exact Or.inr rfl) (pe_lst (pa_cons (pe_tup (pa_cons (uv 0) (pa_cons (uv 1) pa_nil))) pa_nil)))
      (pss_cons (ps_while (passes_of rfl) (pt_cmpR uo_gt (pe_callB uk_len rfl T.z_len boot_len (pa_cons (uv 2) pa_nil)) pe_int (nomark _)) (pss_cons (ps_asg (pe_bm0 PySem.F.plainAttrs_list PySem.F.slot_list_pop PySem.F.type_list_pop mt_pop (uv 2)) (pg_tup rfl (pgs_cons (pg_name (i := 3) sc_law_alike.nd rfl (by first | exact Or.inl rfl | exact Or.inr rfl)) (pgs_cons (pg_name (i := 4) sc_law_alike.nd rfl (by first | exact Or.inl rfl | exact Or.inr rfl)) pgs_nil))))
      (pss_one (ps_if (ut (pe_callB uk_isT rfl T.z_isinstance boot_isinstance (pa_cons (uv 4) (pa_cons (pe_tup (pa_cons (pe_bltn (v := .ty "tuple") rfl T.z_tuple boot_tuple rfl) (pa_cons (pe_bltn (v := .ty "list") rfl T.z_list boot_list rfl) pa_nil))) pa_nil)))) (pss_cons (ps_if (PW.pt (pw_or (pt_cmpR op_ne (pe_callB uk_is rfl T.z_isinstance boot_isinstance (pa_cons (uv 3) (pa_cons (pe_bltn (v := .ty "tuple") rfl T.z_tuple boot_tuple rfl) pa_nil))) (pe_callB uk_is rfl T.z_isinstance boot_isinstance (pa_cons (uv 4) (pa_cons (pe_bltn (v := .ty "tuple") rfl T.z_tuple boot_tuple rfl) pa_nil))) (nomark _)) (pw_or1 (pt_cmpR op_ne (pe_callB uk_is rfl T.z_isinstance boot_isinstance (pa_cons (uv 3) (pa_cons (pe_bltn (v := .ty "list") rfl T.z_list boot_list rfl) pa_nil))) (pe_callB uk_is rfl T.z_isinstance boot_isinstance (pa_cons (uv 4) (pa_cons (pe_bltn (v := .ty "list") rfl T.z_list boot_list rfl) pa_nil))) (nomark _))))) (pss_one (ps_ret pe_bl)) pss_nil)
      (pss_cons (ps_if (pt_cmpR op_ne (pe_callB uk_len rfl T.z_len boot_len (pa_cons (uv 3) pa_nil)) (pe_callB uk_len rfl T.z_len boot_len (pa_cons (uv 4) pa_nil)) (nomark _)) (pss_one (ps_ret pe_bl)) pss_nil)
      (pss_one (ps_expr (pe_bm PySem.F.plainAttrs_list PySem.F.slot_list_extend PySem.F.type_list_extend mt_extend (uv 2) (pa_cons (pe_listZip rfl rfl T.z_list rfl T.z_zip (pa_cons (uv 3) (pa_cons (uv 4) pa_nil))) pa_nil)))))) (pss_one (ps_if (PW.pt (pw_or (ut (pe_callB uk_isT rfl T.z_isinstance boot_isinstance (pa_cons (uv 3) (pa_cons (pe_tup (pa_cons (pe_bltn (v := .ty "tuple") rfl T.z_tuple boot_tuple rfl) (pa_cons (pe_bltn (v := .ty "list") rfl T.z_list boot_list rfl) pa_nil))) pa_nil)))) (pw_or1 (pt_cmpR op_ne (pe_callB uk_is rfl T.z_isinstance boot_isinstance (pa_cons (uv 3) (pa_cons (pe_bltn (v := .ty "bool") rfl T.z_bool boot_bool rfl) pa_nil))) (pe_callB uk_is rfl T.z_isinstance boot_isinstance (pa_cons (uv 4) (pa_cons (pe_bltn (v := .ty "bool") rfl T.z_bool boot_bool rfl) pa_nil))) (nomark _))))) (pss_one (ps_ret pe_bl)) (pss_one (ps_if (PW.pt (pw_or (pt_cmpR op_ne (pe_callB uk_is rfl T.z_isinstance boot_isinstance (pa_cons (uv 3) (pa_cons (pe_bltn (v := .ty "int") rfl T.z_int boot_int rfl) pa_nil))) (pe_callB uk_is rfl T.z_isinstance boot_isinstance (pa_cons (uv 4) (pa_cons (pe_bltn (v := .ty "int") rfl T.z_int boot_int rfl) pa_nil))) (nomark _)) (pw_or1 (pt_cmpR op_ne (uv 3) (uv 4) (nomark _))))) (pss_one (ps_ret pe_bl)) pss_nil))))))))
      (pss_one (ps_ret pe_bl)))), ?_⟩
  walk_at "go"
  refine g_new fun a ha => ?_
  walk_at "go"
  refine g_new fun l hl => ?_
  walk_at "go"
  have e0 : Ex H (upd H a (.tup [v0, w0])) := Ex.new ha
  have hl0 : H l = none := e0.free hl
  refine g_while (fun m σ H1 => ∃ o1 o2, σ = [some v0, some w0, some (.ref l), o1, o2] ∧ m ≤ 400000 ∧ Ex H H1 ∧ ∃ ts, H1 l = some (.lst ts) ∧ PrS H H1 m ts) _ ⟨none, none, rfl, by rw [← Nat.zero_add dd.size] at hsz; exact hsz, e0.trans (Ex.new hl), _, upd_same, PrS.snoc .nil ⟨a, v0, w0, rfl, Ex.new hl _ _ upd_same, rv, rw'⟩⟩ ?_
  rintro m σ H1 ⟨o1, o2, rfl, hm, e, ts, hts, hp⟩
  walk_at "go"
  refine i_d (fun c => g_wn ?_) fun c => ?_
  · cases hp with
    | nil => cases c
    | @snoc n ts d t hp r =>
      obtain ⟨a, x, y, rfl, ha, rx, ry⟩ := r
      walk_at "go"
      refine g_pop hts ?_
      have b2 : But l H1 (upd H1 l (.lst ts)) := (But.refl _ _).upd
      have h2 := b2.get hts ha (fun z => nomatch z)
      have e2 : Ex H (upd H1 l (.lst ts)) := e.at_new hl0
      have t2 : Tk H1 (upd H1 l (.lst ts)) := b2.tkl hts
      have l2 : upd H1 l (.lst ts) l = some (.lst ts) := upd_same
      refine g_tup2 h2 ?_
      walk_at "go"
      have szp := d.size_pos
      revert l2 e2 t2
      clear h2 b2
      generalize upd H1 l (.lst ts) = H2
      intro e2 t2 l2
      refine g_new fun p hp2 => ?_
      have e3 := e2.trans (Ex.new (o := .tup [.ty "tuple", .ty "list"]) hp2)
      have l3 := Ex.new (o := .tup [.ty "tuple", .ty "list"]) hp2 _ _ l2
      have t3 := t2.trans (Ex.new (o := .tup [.ty "tuple", .ty "list"]) hp2).tk
      walk_at "go"
      refine g_isTD (ry.ex e3) upd_same ?_
      revert e3 l3 t3
      generalize upd H2 p (.tup [.ty "tuple", .ty "list"]) = H3
      intro e3 l3 t3
      walk_at "go"
      refine i_b (fun k => ?_) fun k => ?_
      · obtain ⟨a1, b1, ds, xs, ys, rfl, rfl, rxs, rys, es, hb⟩ := D.open k rx ry
        have hb3 := both_ex e3 hb
        walk_at "go"
        refine g_isD (rx.ex e3) (kit_tup d) ?_
        walk_at "go"
        refine g_isD (ry.ex e3) (kit_tup d) ?_
        walk_at "go"
        refine g_isD (rx.ex e3) (kit_lst d) ?_
        walk_at "go"
        refine g_isD (ry.ex e3) (kit_lst d) ?_
        walk_at "go"
        refine g_len2a hb3 ?_
        walk_at "go"
        refine g_len2b hb3 ?_
        walk_at "go"
        refine i_neI (fun c => absurd (congrArg Int.ofNat (rxs.len2 rys)) c) fun _ => ?_
        walk_at "go"
        refine ⟨a1, b1, xs, ys, rfl, rxs.len2 rys, both_sq hb3, fun H4 z t4 e4 hz _ _ hz4 pz => ?_⟩
        have l4 := e4 _ _ l3
        have ln := sizes_len ds
        have ln2 := rxs.len
        have lp := hp.len
        walk_at "go"
        refine g_ext l4 hz4 (by rw [prz_len pz]; omega) ?_
        have b5 : But l H4 (upd H4 l (.lst (ts ++ t4.map V.ref))) := (But.refl _ _).upd
        have z := (PrS.ext rxs rys pz (hp.tk (t3.trans e4.tk))).tk (b5.tkl l4)
        walk_at "go"
        exact ⟨_, by omega, _, _, rfl, by omega, (e3.trans e4).at_new hl0, _, upd_same, z⟩
      · walk_at "go"
        refine g_new fun p hp2 => ?_
        have e4 := e3.trans (Ex.new (o := .tup [.ty "tuple", .ty "list"]) hp2)
        have l4 := Ex.new (o := .tup [.ty "tuple", .ty "list"]) hp2 _ _ l3
        have t4 := t3.trans (Ex.new (o := .tup [.ty "tuple", .ty "list"]) hp2).tk
        walk_at "go"
        refine g_isTD (rx.ex e4) upd_same ?_
        revert e4 l4 t4
        generalize upd H3 p (.tup [.ty "tuple", .ty "list"]) = H4
        intro e4 l4 t4
        walk_at "go"
        refine i_F k ?_
        walk_at "go"
        refine g_isD (rx.ex e4) (kit_bl d) ?_
        walk_at "go"
        refine g_isD (ry.ex e4) (kit_bl d) ?_
        walk_at "go"
        refine g_isD (rx.ex e4) (kit_int d) ?_
        walk_at "go"
        refine g_isD (ry.ex e4) (kit_int d) ?_
        walk_at "go"
        refine g_neD rx ry k ?_
        walk_at "go"
        exact ⟨_, by omega, _, _, rfl, by omega, e4, _, l4, hp.tk t4⟩
  · walk_at "go"
    exact q _ e

theorem ok_law_boxes_left (T : Txt K mg) : FnOk P w K mg base (L2.CX P w) 1 T.a_law_boxes_left T.d_law_boxes_left ["_law_parts", "_law_counts"] spBoxesLeft := by
  refine T.F_law_boxes_left.okX sc_law_boxes_left (fun vs H Q E h => ?_) (fun cdv A outer s H vs Q E hr h => ?_)
  · obtain ⟨_, _, _, _, rfl, _⟩ := h
    rfl
  obtain ⟨t, c, ps, cs, rfl, ht, hc, l2, pin, hcs, q⟩ := h
  refine ⟨_, (pss_cons (ps_set (i := 2) sc_law_boxes_left.nd rfl (by first | exact Or.inl rfl | exact Or.inr rfl) (pe_lst pa_nil))
      (pss_cons (ps_for (passes_of rfl) rfl (ui_enum rfl T.z_enumerate (pa_cons (uv 0) pa_nil)) (pg_tup rfl (pgs_cons (pg_name (i := 3) sc_law_boxes_left.nd rfl (by first | exact Or.inl rfl | exact Or.inr rfl)) (pgs_cons (pg_name (i := 4) sc_law_boxes_left.nd rfl (by first | exact Or.inl rfl | exact Or.inr rfl)) pgs_nil))) (pss_one (ps_expr (pe_bm PySem.F.plainAttrs_list PySem.F.slot_list_extend PySem.F.type_list_extend mt_extend (uv 2) (pa_cons (pe_lc (own := [("_law_b", 5)]) (g := gName 5) rfl sc_law_boxes_left.nd (pi_range1 rfl T.z_range (pa_cons (pe_ix ux_seq (uv 1) (uv 4) (fun _ _ => rfl)) pa_nil)) (blkOk_by (own := [("_law_b", 5)]) (N := N_law_boxes_left) (sc := defScope s_law_boxes_left) (by decide +kernel)) (fun _ _ _ _ _ => (pg_name (i := 5) sc_law_boxes_left.nd rfl (by first | exact Or.inl rfl | exact Or.inr rfl))) (fun _ _ _ _ _ => pts_nil) (fun _ _ _ _ _ => (pe_tup (pa_cons (uv 3) (pa_cons (uv 5) pa_nil))))) pa_nil)))))
      (pss_one (ps_ret (uv 2))))), ?_⟩
  have lpm : (ps.map V.int).length = ps.length := List.length_map _
  walk_at "go"
  refine g_new fun L hL => ?_
  walk_at "go"
  refine g_enT ?_
  walk_at "go"
  refine ⟨_, _, rfl, sqT (Ex.new hL _ _ ht), ?_⟩
  refine for_it walk_enumT (fun i σ H2 => (∃ o3 o4 o5, σ = [some (.ref t), some (.ref c), some (.ref L), o3, o4, o5]) ∧ Ex H H2 ∧ ∃ vs bs, H2 L = some (.lst vs) ∧ Reps H2 (bs.map bdD) vs ∧ bs.length ≤ 2 * i ∧ bs.Nodup ∧ ∀ b ∈ bs, BxIn cs ps b ∧ b.1 < (i : Nat)) ⟨⟨_, _, _, rfl⟩, Ex.new hL, [], [], upd_same, by simp only [List.map, Reps], Nat.le_refl _, List.nodup_nil, fun b z => (nomatch z)⟩ (fun i σ H2 _ h => sqT (h.2.1 _ _ ht)) ?_ ?_
  · rintro i x σ H2 H2' hi ⟨⟨o3, o4, o5, rfl⟩, e2, vs, bs, hL2, rb, lb, nb, hbs⟩ ⟨Tp, y, z, rfl, hTp, rfl, hy, hz⟩
    cases hy
    replace hz : (ps.map V.int)[i]? = some z := hz
    rw [List.getElem?_map] at hz
    cases ep : ps[i]? with
    | none => rw [ep] at hz; cases hz
    | some pn =>
    rw [ep] at hz
    cases hz
    have li := (List.getElem?_eq_some_iff.1 ep).1
    obtain ⟨p0, p1⟩ := pin pn (List.mem_of_getElem? ep)
    have epn : ps.getD i 0 = pn := by rw [List.getD_eq_getElem?_getD, ep]; rfl
    have ecn := cnt_at p0 p1
    have hcn : 0 ≤ cntAt cs pn ∧ cntAt cs pn ≤ 2 := by
      unfold cntAt
      rw [List.getD_eq_getElem?_getD, List.getElem?_eq_getElem (by omega)]
      exact hcs _ (List.getElem_mem _)
    obtain ⟨n, en⟩ := Int.eq_ofNat_of_zero_le hcn.1
    rw [en] at ecn hcn
    have e3 := Ex.new (o := .tup [.int (i : Nat), .int pn]) hTp
    refine g_tup2 upd_same ?_
    revert e3
    generalize upd H2 Tp (.tup [.int (i : Nat), .int pn]) = H3
    intro e3
    walk_at "go"
    refine g_tyL (e3 _ _ hL2) ?_
    walk_at "go"
    refine g_ixT (e3 _ _ (e2 _ _ hc)) ecn ?_
    walk_at "go"
    refine ⟨_, rfl, by omega, by omega, fun D hD => ?_⟩
    rw [Int.toNat_natCast]
    refine lc_mapE walk_range (fun j H8 v => ∃ m, (List.range n)[j]? = some m ∧ Rep H8 (bdD ((i : Nat), (m : Nat))) v) (by omega) hD (fun _ _ _ _ t r => r.elim fun x z => ⟨x, z.1, z.2.tk t (bd_hard _)⟩) (fun _ _ => trivial) ?_ ?_
    · rintro j x H8 H9 P N hj e8 ⟨rfl, rfl⟩ k
      walk_at "go"
      refine ⟨rfl, ?_⟩
      walk_at "go"
      refine g_new fun a ha => ?_
      exact k _ _ (Ex.new ha) ⟨j, List.getElem?_range hj, Rep.bd (b := ((i : Nat), (j : Nat))) (by
        rw [upd_same]
        show some (HO.tup [V.int (i : Nat), V.int (0 + (j : Nat))]) = _
        rw [Int.zero_add])⟩
    intro H5 acc e5 hacc hla hr2
    have ra : Reps H5 (((List.range n).map fun m => (((i : Nat) : Int), ((m : Nat) : Int))).map bdD) acc := by
      rw [List.map_map]
      exact reps_at (f := bdD ∘ fun m : Nat => (((i : Nat) : Int), ((m : Nat) : Int))) (by rw [hla, List.length_range]) hr2
    have hL5 := e5 _ _ (e3 _ _ hL2)
    have lvs : vs.length = bs.length := by rw [rb.len, List.length_map]
    walk_at "go"
    refine g_ext hL5 hacc (by omega) ?_
    have tu := tk_put (ys := vs ++ acc) hL5
    walk_at "go"
    refine ⟨⟨_, _, _, rfl⟩, (e2.trans (e3.trans e5)).at_new hL, vs ++ acc, bs ++ (List.range n).map (fun m => (((i : Nat) : Int), ((m : Nat) : Int))), upd_same, ?_, ?_, ?_, fun b hb => ?_⟩
    · rw [List.map_append]
      exact ((rb.ex (e3.trans e5)).tkm tu bd_hard).append (ra.tkm tu bd_hard)
    · rw [List.length_append, List.length_map, List.length_range]
      omega
    · refine List.nodup_append.2 ⟨nb, ?_, fun x hx y hy => ?_⟩
      · refine List.pairwise_map.2 (List.Pairwise.imp (fun {a b} h z => h ?_) List.nodup_range)
        have := congrArg Prod.snd z
        exact Int.ofNat_inj.1 this
      · obtain ⟨m, _, rfl⟩ := List.mem_map.1 hy
        intro z
        have := (hbs x hx).2
        rw [z] at this
        exact absurd this (Int.lt_irrefl _)
    · rcases List.mem_append.1 hb with hb | hb
      · exact ⟨(hbs b hb).1, by have := (hbs b hb).2; omega⟩
      · obtain ⟨m, hm, rfl⟩ := List.mem_map.1 hb
        have lm := List.mem_range.1 hm
        refine ⟨⟨⟨Int.natCast_nonneg _, Int.ofNat_lt.2 li⟩, Int.natCast_nonneg _, ?_⟩, Int.ofNat_lt.2 (Nat.lt_succ_self i)⟩
        show ((m : Nat) : Int) < cntAt cs (ps.getD ((i : Nat) : Int).toNat 0)
        rw [Int.toNat_natCast, epn, en]
        omega
  · rintro σ H2 ⟨⟨o3, o4, o5, rfl⟩, e2, vs, bs, hL2, rb, lb, nb, hbs⟩
    walk_at "go"
    exact q _ _ _ _ hL e2 hL2 rb (by omega) nb fun b h => (hbs b h).1

theorem ok_printed_at (T : Txt K mg) : FnOk P w K mg base (L2.CX P w) 2 T.a_printed_at T.d_printed_at ["wood", "printer", "tree"] spPrintedAt := by
  refine T.F_printed_at.okX sc_printed_at (fun vs H Q E h => ?_) (fun cdv A outer s H vs Q E hr h => ?_)
  · obtain ⟨_, _, _, _, _, _, rfl, _⟩ := h
    rfl
  obtain ⟨wd, pr, t, wv, pv, tv, rfl, rw1, ok, rp, lr, rt, t0, lt, fit, q⟩ := h
  refine ⟨_, (pss_cons (ps_set (i := 3) sc_printed_at.nd rfl (by first | exact Or.inl rfl | exact Or.inr rfl) (pe_dictZipS rfl rfl T.z_dict rfl T.z_zip (pa_cons (pe_callD (ok_makers_of T) (hr.mono (by decide)) rfl T.m_makers_of T.F_makers_of.kp T.b_makers_of .nil (fun σ => passAt (takes_of rfl rfl rfl rfl) σ) (pa_cons (uv 0) pa_nil)) (pa_cons (pe_ix ux_seq (uv 1) pe_int (fun _ _ => rfl)) pa_nil)) pe_bl))
      (pss_cons (ps_set (i := 4) sc_printed_at.nd rfl (by first | exact Or.inl rfl | exact Or.inr rfl) (pe_lst pa_nil))
      (pss_cons (ps_for (passes_of rfl) rfl (ui_seq (uv 2)) (pg_tup rfl (pgs_cons (pg_name (i := 5) sc_printed_at.nd rfl (by first | exact Or.inl rfl | exact Or.inr rfl)) (pgs_cons (pg_name (i := 6) sc_printed_at.nd rfl (by first | exact Or.inl rfl | exact Or.inr rfl)) pgs_nil))) (pss_cons (ps_set (i := 7) sc_printed_at.nd rfl (by first | exact Or.inl rfl | exact Or.inr rfl) (pe_lc (own := [("number", 8)]) (g := gName 8) rfl sc_printed_at.nd (ui_seq (uv 6)) (blkOk_by (own := [("number", 8)]) (N := N_printed_at) (sc := defScope s_printed_at) (by decide +kernel)) (fun _ _ _ _ _ => (pg_name (i := 8) sc_printed_at.nd rfl (by first | exact Or.inl rfl | exact Or.inr rfl))) (fun _ _ _ _ _ => pts_nil) (fun _ _ _ _ _ => (pe_ix (show IxR _ (uIx K) from ux_seq) (uv 4) (uv 8) (fun _ _ => rfl)))))
      (pss_one (ps_expr (pe_bm PySem.F.plainAttrs_list PySem.F.slot_list_append PySem.F.type_list_append mt_append (uv 4) (pa_cons (pe_callTy uk_tup rfl T.z_tuple boot_tuple (pa_cons (pe_lc (own := [("row", 9)]) (g := gName 9) rfl sc_printed_at.nd (ui_seq (pe_dget (hu_of hr) (uv 3) (uv 5) (fun _ _ => rfl))) (blkOk_by (own := [("row", 9)]) (N := N_printed_at) (sc := defScope s_printed_at) (by decide +kernel)) (fun _ _ _ _ _ => (pg_name (i := 9) sc_printed_at.nd rfl (by first | exact Or.inl rfl | exact Or.inr rfl))) (fun _ _ _ _ _ => pts_nil) (fun _ _ _ _ _ => (pe_callD (ok_joined T) (hr.mono (by decide)) rfl T.m_joined T.F_joined.kp T.b_joined .nil (fun _ => passAt0) (pa_cons (uv 9) (pa_cons (uv 7) pa_nil))))) pa_nil)) pa_nil))))))
      (pss_one (ps_ret (pe_ix ux_seq (uv 4) (pe_un uu_neg pe_int) (fun _ _ => rfl))))))), ?_⟩
  have tabl := ok.many
  obtain ⟨wv0, wvx, rfl, hwv, rwv⟩ := id rw1.tupI
  obtain ⟨pa, c, b, xs, rfl, hpa, _, hbb, rx⟩ := pr_at rp
  have lxs : xs.length = pr.2.2.length := by rw [rx.len, List.length_map]
  obtain ⟨ta, ts, rfl, hta, rts⟩ := id (Rep.tupI (show Rep H (.tup (t.map rowD)) tv from rt))
  have lts : ts.length = t.length := by rw [rts.len, List.length_map]
  have lnm : (mkNames wd).length = (tabFrom 0 wd).length := by rw [← tab_names wd 0, List.length_map]
  walk_at "go"
  refine g_dz ?_
  walk_at "go"
  refine ⟨wd, _, rfl, rw1, Nat.le_trans ok.names (by decide), ok.row, fun ml H1 hml0 e1 hml => ?_⟩
  walk_at "go"
  refine g_ixT (i := 2) (e1 _ _ hpa) rfl ?_
  walk_at "go"
  refine ⟨false, true, ml, b, (mkNames wd).map Sum.inr, xs, rfl, ?_, sqT (e1 _ _ hbb), by rw [List.length_map]; omega, fun d hd => ?_⟩
  · show SqL K H1 ml (((mkNames wd).map Sum.inr).map kV)
    rw [List.map_map]
    exact sqL hml
  have e3 := e1.trans (Ex.new (o := .dK (mergeK [] (((mkNames wd).map (Sum.inr : Str → L2.Key)).zip xs))) hd)
  have hd3 := @upd_same H1 d (.dK (mergeK [] (((mkNames wd).map (Sum.inr : Str → L2.Key)).zip xs)))
  revert e3 hd3
  generalize upd H1 d (.dK (mergeK [] (((mkNames wd).map (Sum.inr : Str → L2.Key)).zip xs))) = H3
  intro e3 hd3
  walk_at "go"
  refine g_new fun F hF => ?_
  have hF0 := e3.free hF
  have nFd : d ≠ F := fun z => by rw [z, hF] at hd3; cases hd3
  walk_at "go"
  refine g_seqTs ?_
  walk_at "go"
  refine ⟨_, rfl, ⟨_, sqT (Ex.new hF _ _ (e3 _ _ hta))⟩, ?_⟩
  refine for_it walk_tup (fun i σ H4 => (∃ o5 o6 o7, σ = [some (.ref wv0), some (.ref pa), some (.ref ta), some (.ref d), some (.ref F), o5, o6, o7, none, none]) ∧ Ex H3 H4 ∧ ∃ fv, H4 F = some (.lst fv) ∧ Reps H4 ((prints wd pr (t.take i)).map txsD) fv) ⟨⟨_, _, _, rfl⟩, Ex.new hF, [], upd_same, by simp only [List.take_zero, prints, foldV, List.foldl, List.map, Reps]⟩ (fun i σ H4 _ h => sqT ((e3.trans h.2.1) _ _ hta)) ?_ ?_
  · rintro i x σ H4 H4' hi ⟨⟨o5, o6, o7, rfl⟩, e4, fv, hfv, rfv⟩ ⟨rfl, hx⟩
    replace hx : ts[i]? = some x := hx
    obtain ⟨dd, hdd, rd⟩ := rts.get hx
    rw [List.getElem?_map] at hdd
    cases er : t[i]? with
    | none => rw [er] at hdd; cases hdd
    | some row =>
    rw [er] at hdd
    cases hdd
    have RF := fit i row er
    obtain ⟨jj, ee, hj1, hj2, hj3⟩ := RF.made
    have two := RF.two
    have li : i ≤ t.length := Nat.le_of_lt (List.getElem?_eq_some_iff.1 er).1
    have lac : (prints wd pr (t.take i)).length = i := by rw [prints_len, List.length_take]; omega
    have lfv : fv.length = i := by rw [rfv.len, List.length_map, lac]
    obtain ⟨xv, exv, rxv⟩ := rx.at (i := jj) (d := rpD (ruleP wd pr row.1)) (by rw [List.getElem?_map, hj3]; rfl)
    obtain ⟨sa, svs, rfl, hsa, rsv⟩ := id (Rep.tupI (show Rep H (.tup ((ruleP wd pr row.1).map rwD)) xv from rxv))
    have lsv : svs.length = (ruleP wd pr row.1).length := by rw [rsv.len, List.length_map]
    have lrule := RF.rule
    have hnj : (mkNames wd)[jj]? = some ee.2.1 := by rw [← tab_names wd 0, List.getElem?_map, hj1]; rfl
    have edk : valV (mergeK [] (((mkNames wd).map (Sum.inr : Str → L2.Key)).zip xs)) (.inr row.1) = some (.ref sa) := by
      rw [← hj2]
      exact valZ (by rw [← tab_names wd 0]; exact ok.nd) (by omega) hnj exv
    obtain ⟨rp', y, z, rfl, hrp, ry, rz⟩ := rd.twoI
    cases ry.strI
    obtain ⟨np, nv, rfl, hnp, rn⟩ := rz.tupI
    rw [rn.ints] at hnp
    have e34 := e3.trans e4
    refine g_tup2 (e34 _ _ hrp) ?_
    have hnp4 := e34 _ _ hnp
    walk_at "go"
    refine g_seqTs ?_
    walk_at "go"
    refine ⟨_, rfl, ⟨_, sqT hnp4⟩, fun PL hPL => ?_⟩
    have lrm : (row.2.map V.int).length = row.2.length := List.length_map _
    refine lc_mapE walk_tup (fun u H8 v => ∃ n, row.2[u]? = some n ∧ Rep H8 (txsD ((prints wd pr (t.take i)).getD n.toNat [])) v) (by omega) hPL (fun _ _ _ _ t r => r.elim fun x z => ⟨x, z.1, z.2.tk t (txs_hard _)⟩) (fun H8 e => sqT (e _ _ hnp4)) ?_ ?_
    · rintro u y H8 H9 P N2 hu e8 ⟨rfl, hy⟩ k
      rw [List.getElem?_map] at hy
      cases en : row.2[u]? with
      | none => rw [en] at hy; cases hy
      | some n =>
      rw [en] at hy
      cases hy
      obtain ⟨n0, n1⟩ := RF.idx n (List.mem_of_getElem? en)
      obtain ⟨fx, efx, hfx⟩ := atI_ex (l := fv) n0 (by omega)
      obtain ⟨d9, hd9, rd9⟩ := rfv.get hfx
      rw [List.getElem?_map] at hd9
      cases e9 : (prints wd pr (t.take i))[n.toNat]? with
      | none => rw [e9] at hd9; cases hd9
      | some fs9 =>
      rw [e9] at hd9
      cases hd9
      walk_at "go"
      refine ⟨rfl, ?_⟩
      walk_at "go"
      refine g_ixL (e8 _ _ hfv) efx ?_
      exact k _ _ (Ex.refl _) ⟨n, en, by rw [List.getD_eq_getElem?_getD, e9]; exact rd9.ex e8⟩
    intro H5 pvs e5 hpvs hlp hrp2
    have rpt : Reps H5 ((partsP (prints wd pr (t.take i)) row.2).map txsD) pvs := by
      unfold partsP
      rw [List.map_map]
      exact reps_at (f := txsD ∘ fun n : Int => (prints wd pr (t.take i)).getD n.toNat []) (by omega) hrp2
    have hF5 := e5 _ _ hfv
    have hd5 := e5 _ _ (e4 _ _ hd3)
    have hsa5 := e5 _ _ (e34 _ _ hsa)
    walk_at "go"
    refine g_seqTs ?_
    walk_at "go"
    refine g_dgS hd5 edk ?_
    refine ⟨_, rfl, ⟨_, sqT hsa5⟩, fun TL hTL => ?_⟩
    refine lc_mapE walk_tup (fun u H8 v => ∃ r, (ruleP wd pr row.1)[u]? = some r ∧ v = V.str (joinRow (partsP (prints wd pr (t.take i)) row.2) r)) (by omega) hTL (fun _ _ _ _ _ r => r) (fun H8 e => sqT (e _ _ hsa5)) ?_ ?_
    · rintro u y H8 H9 P N2 hu e8 ⟨rfl, hy⟩ k
      replace hy : svs[u]? = some y := hy
      obtain ⟨d9, hd9, rd9⟩ := rsv.get hy
      rw [List.getElem?_map] at hd9
      cases e9 : (ruleP wd pr row.1)[u]? with
      | none => rw [e9] at hd9; cases hd9
      | some r9 =>
      rw [e9] at hd9
      cases hd9
      have m9 := List.mem_of_getElem? e9
      obtain ⟨r9a, _, rfl, _, _⟩ := id (Rep.tupI (show Rep H (.tup (r9.map itD)) y from rd9))
      walk_at "go"
      refine ⟨rfl, ?_⟩
      walk_at "go"
      refine ⟨r9a, PL, r9, _, pvs, rfl, (rd9.ex e34).ex (e5.trans e8), e8 _ _ hpvs, rpt.ex e8, by unfold partsP; rw [List.length_map]; omega, (RF.item r9 m9).1, (RF.item r9 m9).2, RF.long r9 m9, fun H10 e10 => ?_⟩
      exact k _ _ e10 ⟨r9, e9, rfl⟩
    intro H6 tvs e6 htvs hlt htr
    have et := acc_mapS (xs := ruleP wd pr row.1) (f := joinRow (partsP (prints wd pr (t.take i)) row.2)) (by omega) htr
    have hF6 := e6 _ _ hF5
    walk_at "go"
    refine g_tupOf htvs fun q1 hq1 => ?_
    have e7 := Ex.new (o := .tup tvs) hq1
    have hq7 := @upd_same H6 q1 (.tup tvs)
    have hF7 := e7 _ _ hF6
    revert e7 hq7 hF7
    generalize upd H6 q1 (.tup tvs) = H7
    intro e7 hq7 hF7
    walk_at "go"
    refine g_app hF7 (Nat.lt_of_le_of_lt (by omega : fv.length ≤ 1000) (by decide)) ?_
    have tu := tk_put (ys := fv ++ [.ref q1]) hF7
    have e57 := e5.trans (e6.trans e7)
    walk_at "go"
    refine ⟨⟨_, _, _, rfl⟩, (e4.trans e57).at_new hF, _, upd_same, ?_⟩
    rw [prints_take er]
    refine reps_snoc ((rfv.ex e57).tkm tu txs_hard) ?_
    refine Rep.tk tu (txs_hard _) ?_
    refine Rep.tupO hq7 ?_
    rw [et]
    exact reps_strs _
  · rintro σ H4 ⟨⟨o5, o6, o7, rfl⟩, e4, fv, hfv, rfv⟩
    rw [lts, List.take_length] at rfv
    have lfv : fv.length = t.length := by rw [rfv.len, List.length_map, prints_len]
    obtain ⟨v, hv⟩ : ∃ v, fv[t.length - 1]? = some v := ⟨_, List.getElem?_eq_getElem (by omega)⟩
    obtain ⟨d, hd, rd⟩ := rfv.get hv
    rw [List.getElem?_map] at hd
    cases e : (prints wd pr t)[t.length - 1]? with
    | none => rw [e] at hd; cases hd
    | some fs =>
      rw [e] at hd
      cases hd
      walk_at "go"
      refine g_ixL hfv (atI_last (n := t.length - 1) (by omega) hv) ?_
      exact q _ _ (e3.trans e4) (by rw [List.getD_eq_getElem?_getD, e]; exact rd)

theorem ok_law_names (T : Txt K mg) : FnOk P w K mg base (L2.CX P w) 2 T.a_law_names T.d_law_names ["_law_box_here", "_law_many"] spNames2 := by
  refine T.F_law_names.okX sc_law_names (fun vs H Q E h => ?_) (fun cdv A outer s H vs Q E hr h => ?_)
  · obtain ⟨_, _, rfl, _⟩ := h
    rfl
  obtain ⟨p, many, rfl, hb, hmany, q⟩ := h
  refine ⟨_, (pss_cons (ps_set (i := 2) sc_law_names.nd rfl (by first | exact Or.inl rfl | exact Or.inr rfl) pe_str)
      (pss_cons (ps_set (i := 3) sc_law_names.nd rfl (by first | exact Or.inl rfl | exact Or.inr rfl) (pe_join pe_str (pe_lc (own := [("_law_k", 7)]) (g := gName 7) rfl sc_law_names.nd (pi_range1 rfl T.z_range (pa_cons (pe_callD (ok_law_take T) (hr.mono (by decide)) rfl T.m_law_take T.F_law_take.kp T.b_law_take .nil (fun σ => passAt (takes_of rfl rfl rfl rfl) σ) (pa_cons (uv 0) (pa_cons pe_int pa_nil))) pa_nil)) (blkOk_by (own := [("_law_k", 7)]) (N := N_law_names) (sc := defScope s_law_names) (by decide +kernel)) (fun _ _ _ _ _ => (pg_name (i := 7) sc_law_names.nd rfl (by first | exact Or.inl rfl | exact Or.inr rfl))) (fun _ _ _ _ _ => pts_nil) (fun _ _ _ _ _ => (pe_ix (show IxR _ (uIx K) from ux_seq) (uv 2) (pe_callD (ok_law_take T) (hr.mono (by decide)) rfl T.m_law_take T.F_law_take.kp T.b_law_take .nil (fun _ => passAt0) (pa_cons (uv 0) (pa_cons pe_int pa_nil))) (fun _ _ => rfl))))))
      (pss_cons (ps_par (i := 4) (j := 5) rfl sc_law_names.nd rfl rfl (by decide) rfl rfl (pa_cons (pe_callD (ok_law_take T) (hr.mono (by decide)) rfl T.m_law_take T.F_law_take.kp T.b_law_take .nil (fun σ => passAt (takes_of rfl rfl rfl rfl) σ) (pa_cons (uv 0) (pa_cons (pe_op uo_add (pe_callB uk_len rfl T.z_len boot_len (pa_cons (uv 3) pa_nil)) pe_int) pa_nil))) (pa_cons (pe_callD (ok_law_take T) (hr.mono (by decide)) rfl T.m_law_take T.F_law_take.kp T.b_law_take .nil (fun σ => passAt (takes_of rfl rfl rfl rfl) σ) (pa_cons (uv 0) (pa_cons pe_int pa_nil))) pa_nil)) rfl)
      (pss_cons (ps_set (i := 6) sc_law_names.nd rfl (by first | exact Or.inl rfl | exact Or.inr rfl) (pe_lst pa_nil))
      (pss_cons (ps_for (passes_of rfl) rfl (pi_range1 rfl T.z_range (pa_cons (uv 1) pa_nil)) (pg_name (i := 7) sc_law_names.nd rfl (by first | exact Or.inl rfl | exact Or.inr rfl)) (pss_cons (ps_set (i := 8) sc_law_names.nd rfl (by first | exact Or.inl rfl | exact Or.inr rfl) (pe_op uo_add (pe_op uo_add (pe_slice us_sl (uv 3) po_none (po_some (uv 4))) (pe_ix ux_seq (uv 2) (pe_op uo_mod (pe_op uo_add (uv 5) (pe_op uo_mul pe_int (uv 7))) pe_int) (fun _ _ => rfl))) (pe_slice us_sl (uv 3) (po_some (uv 4)) po_none)))
      (C8.pss_cut (ps_if (pt_cmpR op_eq (pe_op uo_mod (uv 7) pe_int) pe_int (nomark _)) (pss_one (ps_set (i := 8) sc_law_names.nd rfl (by first | exact Or.inl rfl | exact Or.inr rfl) (pe_op uo_add (uv 8) pe_str))) pss_nil)
      (C8.pss_cut (ps_if (PW.pt (pw_or (pt_cmpR uo_in (uv 8) (uv 6) rfl) (pw_or1 (pt_cmpR op_eq (uv 8) pe_str (nomark _))))) (pss_one (ps_set (i := 8) sc_law_names.nd rfl (by first | exact Or.inl rfl | exact Or.inr rfl) (pe_op uo_add (pe_op uo_add pe_str (pe_ix ux_seq (uv 2) (pe_op uo_mod (uv 7) pe_int) (fun _ _ => rfl))) (pe_ix ux_seq (uv 2) (pe_op uo_fd (uv 7) pe_int) (fun _ _ => rfl))))) pss_nil)
      (pss_one (ps_expr (pe_bm PySem.F.plainAttrs_list PySem.F.slot_list_append PySem.F.type_list_append mt_append (uv 6) (pa_cons (uv 8) pa_nil))))))))
      (pss_one (ps_ret (uv 6)))))))), ?_⟩
  walk_at "go"
  refine g_m1 ?_
  walk_at "go"
  refine ⟨p, 5, rfl, hb, by decide, by decide, fun n0 H1 n00 n01 b1 hb1 => ?_⟩
  walk_at "go"
  refine ⟨n0, rfl, by omega, by omega, fun D hD => ?_⟩
  refine lc_mapB walk_range p (fun _ _ v => ∃ c, v = V.str ⟨#[c]⟩ ∧ c ∈ lettersS.cps.toList) (by omega) hD hb1 (fun _ _ _ _ _ r => r) (fun _ _ => trivial) ?_ ?_
  · rintro i x H6 H7 P N hi e6 hb6 ⟨rfl, rfl⟩ k
    walk_at "go"
    refine ⟨rfl, ?_⟩
    walk_at "go"
    refine ⟨p, 26, rfl, hb6, by decide, by decide, fun j H8 j0 j1 b8 hb8 => ?_⟩
    walk_at "go"
    obtain ⟨c, ec, hc⟩ := atI_ex (l := lettersS.cps.toList) j0 (by rw [← str_len, letters_len]; omega)
    refine g_ixS (z := lettersS) ec (by rw [letters_len]; decide) ?_
    exact k _ _ b8 hb8 ⟨c, rfl, List.mem_of_getElem? hc⟩
  intro H2 acc e2 hb2 hacc hla hr2
  obtain ⟨cs, rfl, hcl, hcs⟩ := acc_ones hla hr2
  refine ⟨"", D, cs.map one, rfl, rfl, .inl (sqL hacc), joinB (by omega), ?_⟩
  have sl : (Txt.join "" (cs.map one)).length ≤ 4 := by rw [str_len, joinOnes]; omega
  have slow : Low (Txt.join "" (cs.map one)) := fun c hc => by rw [joinOnes] at hc; exact hcs c hc
  generalize Txt.join "" (cs.map one) = stem at sl slow
  have b02 := b1.trans e2
  clear hr2 hla hacc hcl hcs hb1 e2
  walk_at "go"
  refine g_lenStr (by omega) ?_
  walk_at "go"
  refine ⟨p, _, rfl, hb2, by omega, Nat.lt_of_lt_of_le (Bits.log (n := 10) (show ((stem.length : Nat) + 1 : Int).natAbs < 2 ^ 10 by omega)) (by decide), fun pos H3 p0 p1 b3 hb3 => ?_⟩
  obtain ⟨at', rfl⟩ := Int.eq_ofNat_of_zero_le p0
  have at_le : at' ≤ stem.length := by omega
  have at_le2 : at' ≤ stem.cps.toList.length := by rw [← str_len]; exact at_le
  walk_at "go"
  refine ⟨p, 26, rfl, hb3, by decide, by decide, fun fi H4 f0 f1 b4 hb4 => ?_⟩
  obtain ⟨f', rfl⟩ := Int.eq_ofNat_of_zero_le f0
  have b04 := (b02.trans b3).trans b4
  walk_at "go"
  refine g_new fun l hl => ?_
  have nl := hb4.ne hl
  have hl0 : H l = none := by
    cases c : H l with
    | none => rfl
    | some o => rw [b04 _ _ nl c] at hl; cases hl
  walk_at "go"
  refine ⟨_, rfl, by omega, by omega, ?_⟩
  rw [Int.toNat_natCast]
  refine for_it walk_range (fun i σ H5 => (∃ o7 o8, σ = [some (.ref p), some (.int (many : Nat)), some (.str lettersS), some (.str stem), some (.int (at' : Nat)), some (.int (f' : Nat)), some (.ref l), o7, o8]) ∧ But p H H5 ∧ Box H5 p ∧ ∃ ss : List Str, H5 l = some (.lst (ss.map V.str)) ∧ ss.length = i ∧ (∀ s ∈ ss, isName s = true) ∧ ss.Nodup ∧ ∀ (j : Nat) (s : Str), ss[j]? = some s → NmAt stem.cps.toList at' f' j s) ⟨⟨_, _, rfl⟩, b04.at_new hl0, hb4.at_upd nl, [], upd_same, rfl, fun s z => (nomatch z), List.nodup_nil, fun j s z => by simp at z⟩ (fun _ _ _ _ _ => trivial) ?_ ?_
  · rintro i x σ H5 H5' hi ⟨⟨o7, o8, rfl⟩, b5, hb5, ss, hss, hsl, hsn, hsd, hnm⟩ ⟨rfl, rfl⟩
    have l1 : (cutS stem none (some (at' : Int))).length = min at' stem.length := cut_to_len _ _
    have l2 : (cutS stem (some (at' : Int)) none).length = stem.length - at' := by rw [str_len, cut_from at_le, List.length_drop, ← str_len]
    have l3 : (⟨#[97 + (f' + 7 * i) % 26]⟩ : Str).length = 1 := rfl
    have l4 := app_len (cutS stem none (some (at' : Int))) ⟨#[97 + (f' + 7 * i) % 26]⟩
    have l5 := app_len (cutS stem none (some (at' : Int)) ++ ⟨#[97 + (f' + 7 * i) % 26]⟩) (cutS stem (some (at' : Int)) none)
    have nml := name_list (c := 97 + (f' + 7 * i) % 26) at_le
    walk_at "go"
    refine g_slS (by omega) ?_
    walk_at "go"
    refine g_ixS (z := lettersS) (letters_mod (n := f' + 7 * i) (by omega)) (by rw [letters_len]; decide) ?_
    refine g_addS (by omega) ?_
    walk_at "go"
    refine g_slS (by omega) ?_
    walk_at "go"
    refine g_addS (by omega) ?_
    walk_at "go"
    generalize (cutS stem none (some (at' : Int)) ++ ⟨#[97 + (f' + 7 * i) % 26]⟩) ++ cutS stem (some (at' : Int)) none = nm0 at l5 nml
    refine ⟨fun σ' H' => H' = H5' ∧ ∃ nm : Str, nm.length ≤ 6 ∧ nm.cps.toList = fullL stem.cps.toList at' f' i ∧ σ' = [some (.ref p), some (.int (many : Nat)), some (.str lettersS), some (.str stem), some (.int (at' : Nat)), some (.int (f' : Nat)), some (.ref l), some (.int (0 + (i : Int))), some (.str nm)], ?_, ?_⟩
    · walk_at "go"
      have e3 : (0 + (i : Int)).fmod 3 = ((i % 3 : Nat) : Int) := by
        rw [Int.zero_add, Int.fmod_eq_emod_of_nonneg _ (by decide)]
        rfl
      rw [e3]
      refine i_eqI (fun c => ?_) fun c => ?_
      · have c' : i % 3 = 1 := by omega
        walk_at "go"
        have l6 := app_len nm0 "j"
        have l7 : ("j" : Str).length = 1 := rfl
        refine g_addS (by omega) ?_
        walk_at "go"
        refine ⟨rfl, nm0 ++ "j", by omega, ?_, rfl⟩
        rw [app_list, nml]
        unfold fullL baseL
        rw [if_pos c']
        rfl
      · have c' : ¬ i % 3 = 1 := by omega
        walk_at "go"
        refine ⟨rfl, nm0, by omega, ?_, rfl⟩
        rw [nml]
        unfold fullL baseL
        rw [if_neg c', List.append_nil]
    rintro σ' H' ⟨rfl, nm, ln, enm, rfl⟩
    refine ⟨fun σ' H'' => H'' = H' ∧ ∃ nm : Str, NmAt stem.cps.toList at' f' i nm ∧ σ' = [some (.ref p), some (.int (many : Nat)), some (.str lettersS), some (.str stem), some (.int (at' : Nat)), some (.int (f' : Nat)), some (.ref l), some (.int (0 + (i : Int))), some (.str nm)], ?_, ?_⟩
    · walk_at "go"
      refine g_inL hss ?_
      rw [decide_eq_false ((nm_new at_le2 (by omega) hsl hnm).1 nm enm)]
      walk_at "go"
      refine i_eqS (fun c => ?_) fun c => ?_
      · walk_at "go"
        have k1 : (⟨#[97 + i % 26]⟩ : Str).length = 1 := rfl
        have k2 : (⟨#[97 + i / 26]⟩ : Str).length = 1 := rfl
        have k3 : ("jj" : Str).length = 2 := rfl
        have k4 := app_len "jj" ⟨#[97 + i % 26]⟩
        refine g_ixS (z := lettersS) (letters_mod (n := i) (by omega)) (by rw [letters_len]; decide) ?_
        refine g_addS (by omega) ?_
        walk_at "go"
        refine g_ixS (z := lettersS) (letters_div (n := i) (by omega) (by omega)) (by rw [letters_len]; decide) ?_
        refine g_addS (by omega) ?_
        walk_at "go"
        refine ⟨rfl, _, .inr ⟨by rw [← enm, c]; exact kindL_eq, ?_⟩, rfl⟩
        rw [app_list, app_list]
        rfl
      · walk_at "go"
        exact ⟨rfl, nm, .inl ⟨fun z => c (str_ext (by rw [enm, z]; exact kindL_eq.symm)), enm⟩, rfl⟩
    rintro σ' H'' ⟨rfl, nm2, hn2, rfl⟩
    walk_at "go"
    refine g_app hss (Nat.lt_of_le_of_lt (by rw [List.length_map]; omega : (ss.map V.str).length ≤ 1000) (by decide)) ?_
    have nin := (nm_new at_le2 (by omega) hsl hnm).2 nm2 hn2
    have isn := nm_is at_le2 (by omega) slow (by rw [← str_len]; exact sl) hn2
    walk_at "go"
    refine ⟨⟨_, _, rfl⟩, b5.at_new hl0, hb5.at_upd nl, ss ++ [nm2], by rw [upd_same, List.map_append]; rfl, by rw [List.length_append, hsl]; rfl, fun s hs => ?_, ?_, fun j s hj => ?_⟩
    · rcases List.mem_append.1 hs with hs | hs
      · exact hsn s hs
      · rw [List.mem_singleton.1 hs]
        exact isn
    · refine List.nodup_append.2 ⟨hsd, List.nodup_cons.2 ⟨fun z => (nomatch z), List.nodup_nil⟩, fun x hx y hy => ?_⟩
      rw [List.mem_singleton.1 hy]
      intro z
      exact nin (z ▸ hx)
    · rcases Nat.lt_or_ge j ss.length with c | c
      · rw [List.getElem?_append_left c] at hj
        exact hnm j s hj
      · rw [List.getElem?_append_right c] at hj
        have ej : j = i := by
          have := (List.getElem?_eq_some_iff.1 hj).1
          rw [List.length_singleton] at this
          omega
        subst ej
        rw [hsl, Nat.sub_self] at hj
        cases hj
        exact hn2
  · rintro σ H5 ⟨⟨o7, o8, rfl⟩, b5, hb5, ss, hss, hsl, hsn, hsd, hnm⟩
    walk_at "go"
    exact q _ ss _ hsl hsn hsd hl0 b5 hb5 hss

theorem ok_law_tree (T : Txt K mg) : FnOk P w K mg base (L2.CX P w) 2 T.a_law_tree T.d_law_tree ["_law_box_here", "_law_wood_here", "_law_most"] spTreeL := by
  refine T.F_law_tree.okX sc_law_tree (fun vs H Q E h => ?_) (fun cdv A outer s H vs Q E hr h => ?_)
  · obtain ⟨_, _, _, _, rfl, _⟩ := h
    rfl
  obtain ⟨p, wd, v, most, rfl, hb, rv, ok, m1, m2, q⟩ := h
  refine ⟨_, (pss_cons (ps_set (i := 3) sc_law_tree.nd rfl (by first | exact Or.inl rfl | exact Or.inr rfl) (pe_callD (ok_law_makers T) (hr.mono (by decide)) rfl T.m_law_makers T.F_law_makers.kp T.b_law_makers .nil (fun σ => passAt (takes_of rfl rfl rfl rfl) σ) (pa_cons (uv 1) pa_nil)))
      (pss_cons (ps_asg (pe_tup (pa_cons (pe_lst pa_nil) (pa_cons (pe_lst pa_nil) pa_nil))) (pg_tup rfl (pgs_cons (pg_name (i := 4) sc_law_tree.nd rfl (by first | exact Or.inl rfl | exact Or.inr rfl)) (pgs_cons (pg_name (i := 5) sc_law_tree.nd rfl (by first | exact Or.inl rfl | exact Or.inr rfl)) pgs_nil))))
      (pss_cons (ps_for (passes_of rfl) rfl (pi_range1 rfl T.z_range (pa_cons (pe_op uo_add pe_int (pe_callD (ok_law_take T) (hr.mono (by decide)) rfl T.m_law_take T.F_law_take.kp T.b_law_take .nil (fun σ => passAt (takes_of rfl rfl rfl rfl) σ) (pa_cons (uv 0) (pa_cons (uv 2) pa_nil)))) pa_nil)) (pg_name (i := 6) sc_law_tree.nd rfl (by first | exact Or.inl rfl | exact Or.inr rfl)) (pss_cons (ps_setLc (i := 7) (own := [("_law_m", 14)]) (g := gName 14) rfl sc_law_tree.nd rfl rfl (sw_true rfl rfl rfl (by decide +kernel)) (pi_range1 rfl T.z_range (pa_cons (pe_callB uk_len rfl T.z_len boot_len (pa_cons (uv 3) pa_nil)) pa_nil)) (blkOk_by (own := [("_law_m", 14)]) (N := N_law_tree) (sc := defScope s_law_tree) (by decide +kernel)) (fun _ _ _ _ _ => (pg_name (i := 14) sc_law_tree.nd rfl (by first | exact Or.inl rfl | exact Or.inr rfl))) (fun _ _ _ _ _ => (pts_one (utK K (pe_callB (show CallR _ (.builtin "all") (rAll K) from (cr_all rfl)) rfl T.z_all boot_all (pa_cons (pe_lc (own := [("_law_part", 12)]) (g := gName 12) rfl sc_law_tree.nd (show PI _ _ _ (uSeq K _) from (ui_seq (pe_ix (show IxR _ (uIx K) from ux_seq) (pe_ix (show IxR _ (uIx K) from ux_seq) (uv 3) (uv 14) (fun _ _ => rfl)) pe_int (fun _ _ => rfl)))) (blkOk_by (own := [("_law_part", 12)]) (by kernel_rfl)) (fun _ _ _ _ _ => (pg_name (i := 12) sc_law_tree.nd rfl (by first | exact Or.inl rfl | exact Or.inr rfl))) (fun _ _ _ _ _ => pts_nil) (fun _ _ _ _ _ => (pe_cmpR (show OpR _ (compareOp .In) (uIn K false) from uo_in) (uv 12) (uv 5) rfl))) pa_nil))))) (fun _ _ _ _ _ => (uv 14)))
      (pss_one (ps_if (pt_cmpR uo_gt (pe_callB uk_len rfl T.z_len boot_len (pa_cons (uv 7) pa_nil)) pe_int (nomark _)) (pss_cons (ps_asg (pe_ix ux_seq (uv 3) (pe_ix ux_seq (uv 7) (pe_callD (ok_law_take T) (hr.mono (by decide)) rfl T.m_law_take T.F_law_take.kp T.b_law_take .nil (fun σ => passAt (takes_of rfl rfl rfl rfl) σ) (pa_cons (uv 0) (pa_cons (pe_callB uk_len rfl T.z_len boot_len (pa_cons (uv 7) pa_nil)) pa_nil))) (fun _ _ => rfl)) (fun _ _ => rfl)) (pg_tup rfl (pgs_cons (pg_name (i := 8) sc_law_tree.nd rfl (by first | exact Or.inl rfl | exact Or.inr rfl)) (pgs_cons (pg_name (i := 9) sc_law_tree.nd rfl (by first | exact Or.inl rfl | exact Or.inr rfl)) (pgs_cons (pg_name (i := 10) sc_law_tree.nd rfl (by first | exact Or.inl rfl | exact Or.inr rfl)) pgs_nil)))))
      (pss_cons (ps_set (i := 11) sc_law_tree.nd rfl (by first | exact Or.inl rfl | exact Or.inr rfl) (pe_lst pa_nil))
      (pss_cons (ps_for (passes_of rfl) rfl (ui_seq (uv 10)) (pg_name (i := 12) sc_law_tree.nd rfl (by first | exact Or.inl rfl | exact Or.inr rfl)) (pss_cons (ps_setLc (i := 13) (own := [("_law_r", 15)]) (g := gName 15) rfl sc_law_tree.nd rfl rfl (sw_true rfl rfl rfl (by decide +kernel)) (pi_range1 rfl T.z_range (pa_cons (pe_callB uk_len rfl T.z_len boot_len (pa_cons (uv 4) pa_nil)) pa_nil)) (blkOk_by (own := [("_law_r", 15)]) (N := N_law_tree) (sc := defScope s_law_tree) (by decide +kernel)) (fun _ _ _ _ _ => (pg_name (i := 15) sc_law_tree.nd rfl (by first | exact Or.inl rfl | exact Or.inr rfl))) (fun _ _ _ _ _ => (pts_one (pt_cmpR op_eq (pe_ix (show IxR _ (uIx K) from ux_seq) (uv 5) (uv 15) (fun _ _ => rfl)) (uv 12) (nomark _)))) (fun _ _ _ _ _ => (uv 15)))
      (pss_one (ps_expr (pe_bm PySem.F.plainAttrs_list PySem.F.slot_list_append PySem.F.type_list_append mt_append (uv 11) (pa_cons (pe_ix ux_seq (uv 13) (pe_op uo_sub (pe_op uo_sub (pe_callB uk_len rfl T.z_len boot_len (pa_cons (uv 13) pa_nil)) pe_int) (pe_callB (uk_min2 rfl) rfl T.z_min boot_min (pa_cons (pe_callD (ok_law_take T) (hr.mono (by decide)) rfl T.m_law_take T.F_law_take.kp T.b_law_take .nil (fun σ => passAt (takes_of rfl rfl rfl rfl) σ) (pa_cons (uv 0) (pa_cons (pe_callB uk_len rfl T.z_len boot_len (pa_cons (uv 13) pa_nil)) pa_nil))) (pa_cons (pe_callD (ok_law_take T) (hr.mono (by decide)) rfl T.m_law_take T.F_law_take.kp T.b_law_take .nil (fun σ => passAt (takes_of rfl rfl rfl rfl) σ) (pa_cons (uv 0) (pa_cons (pe_callB uk_len rfl T.z_len boot_len (pa_cons (uv 13) pa_nil)) pa_nil))) pa_nil)))) (fun _ _ => rfl)) pa_nil))))))
      (pss_cons (ps_expr (pe_bm PySem.F.plainAttrs_list PySem.F.slot_list_append PySem.F.type_list_append mt_append (uv 4) (pa_cons (pe_tup (pa_cons (uv 8) (pa_cons (pe_callTy uk_tup rfl T.z_tuple boot_tuple (pa_cons (uv 11) pa_nil)) pa_nil))) pa_nil)))
      (pss_one (ps_expr (pe_bm PySem.F.plainAttrs_list PySem.F.slot_list_append PySem.F.type_list_append mt_append (uv 5) (pa_cons (uv 9) pa_nil)))))))) pss_nil))))
      (pss_one (ps_ret (pe_callTy uk_tup rfl T.z_tuple boot_tuple (pa_cons (uv 4) pa_nil))))))), ?_⟩
  have tabl := ok.many
  walk_at "go"
  refine ⟨wd, _, rfl, rv, ok, fun ml H1 us e1 hml hDu => ?_⟩
  have lus := hDu.1
  have hb1 := hb.ex e1
  have nml : ml ≠ p := hb1.neL hml fun x hx n z => by
    obtain ⟨j, hj⟩ := List.mem_iff_getElem?.1 hx
    obtain ⟨_, _, _, _, h, _⟩ := hDu.2 j x hj
    rw [h] at z
    cases z
  walk_at "go"
  refine g_new fun R hR => ?_
  walk_at "go"
  refine g_new fun Kd hKd => ?_
  walk_at "go"
  refine g_new fun pt hpt => ?_
  have fR := Ex.new (o := .lst []) hR
  have fK := Ex.new (o := .lst []) hKd
  have fP := Ex.new (o := .tup [.ref R, .ref Kd]) hpt
  have nRK : R ≠ Kd := ne_of_none upd_same hKd
  refine g_tup2 upd_same ?_
  have S0 : TreeS p R Kd wd H1 (upd (upd (upd H1 R (.lst [])) Kd (.lst [])) pt (.tup [.ref R, .ref Kd])) [] [] := ⟨hb1, (fR.trans (fK.trans fP)).but p, hb1.ex (fR.trans (fK.trans fP)), hR, fR.free hKd, nRK, fP _ _ (fK _ _ upd_same), fP _ _ upd_same, by simp only [List.map, Reps], rfl, fun r z => (nomatch z)⟩
  revert S0
  generalize upd (upd (upd H1 R (.lst [])) Kd (.lst [])) pt (.tup [.ref R, .ref Kd]) = H2
  intro S0
  walk_at "go"
  refine ⟨p, most, rfl, S0.bx, by omega, Nat.lt_of_lt_of_le (Bits.log (n := 10) (show ((most : Nat) : Int).natAbs < 2 ^ 10 by omega)) (by decide), fun d H3 d0 d1 b3 hb3 => ?_⟩
  have S3 := S0.but b3 hb3
  walk_at "go"
  refine ⟨_, rfl, by omega, by omega, ?_⟩
  refine for_it walk_range (fun i σ Hc => (∃ o6 o7 o8 o9 o10 o11 o12 o13, σ = [some (.ref p), some v, some (.int (most : Nat)), some (.ref ml), some (.ref R), some (.ref Kd), o6, o7, o8, o9, o10, o11, o12, o13, none, none]) ∧ ∃ t rvs, TreeS p R Kd wd H1 Hc t rvs ∧ t.length ≤ i) ⟨⟨_, _, _, _, _, _, _, _, rfl⟩, [], [], S3, Nat.le_refl _⟩ (fun _ _ _ _ _ => trivial) ?_ ?_
  · rintro i x σ Hca Hc hi ⟨⟨o6, o7, o8, o9, o10, o11, o12, o13, rfl⟩, t, rvs, S, lt⟩ ⟨rfl, rfl⟩
    have hmlc := S.bt _ _ nml hml
    have tkc := hb1.tk S.bt
    have lim : t.length ≤ 200 := by omega
    have lkk : (kindsT wd t).length = t.length := List.length_map _
    walk_at "go"
    refine ⟨_, rfl, by omega, by omega, fun Dx hDx => ?_⟩
    rw [Int.toNat_natCast]
    refine lc_it walk_range (fun j H5 => Ex Hc H5 ∧ ∃ acc : List Int, H5 Dx = some (.lst (acc.map V.int)) ∧ acc.length ≤ j ∧ ∀ m ∈ acc, ∃ (k : Nat) (e : Nat × Mk), m = (k : Nat) ∧ (tabFrom 0 wd)[k]? = some e ∧ ∀ d ∈ dueOf wd e, d ∈ kindsT wd t) ⟨Ex.new hDx, [], upd_same, Nat.le_refl _, fun m z => (nomatch z)⟩ (fun _ _ _ _ => trivial) ?_ ?_
    · rintro j x H5 H5' hj ⟨e5, acc, hacc, hla, hal⟩ ⟨rfl, rfl⟩
      obtain ⟨x, hx⟩ : ∃ x, us[j]? = some x := ⟨_, List.getElem?_eq_getElem (by omega)⟩
      obtain ⟨e, et, p1, t1, rfl, hp1, ht1⟩ := hDu.2 j x hx
      rw [dueOf_vals] at ht1
      obtain ⟨ek, dl, d2, din⟩ := dueOf_in ok (List.mem_of_getElem? et)
      have ldo : ((dueOf wd e).map V.int).length = (dueOf wd e).length := List.length_map _
      walk_at "go"
      refine ⟨rfl, ?_⟩
      walk_at "go"
      refine g_seqTs ?_
      walk_at "go"
      refine g_ixL (e5 _ _ hmlc) (i := 0 + (j : Nat)) (v := .ref p1) (by rw [Int.zero_add]; exact atI_nat hx) ?_
      walk_at "go"
      refine g_ixT (i := 2) (e5 _ _ (tkc _ _ hp1)) rfl ?_
      refine ⟨_, rfl, ⟨_, sqT (e5 _ _ (tkc _ _ ht1))⟩, fun D2 hD2 => ?_⟩
      refine lc_mapE walk_tup (fun u _ v => ∃ d, (dueOf wd e)[u]? = some d ∧ v = .bl (decide (d ∈ kindsT wd t))) (by omega) hD2 (fun _ _ _ _ _ r => r) (fun H8 e8 => sqT (e8 _ _ (e5 _ _ (tkc _ _ ht1)))) ?_ ?_
      · rintro u y H8 H9 P N hu e8 ⟨rfl, hy⟩ k
        rw [List.getElem?_map] at hy
        cases en : (dueOf wd e)[u]? with
        | none => rw [en] at hy; cases hy
        | some dn =>
        rw [en] at hy
        cases hy
        walk_at "go"
        refine ⟨rfl, ?_⟩
        walk_at "go"
        refine g_inL1 (e8 _ _ (e5 _ _ S.atK)) ?_
        exact k _ _ (Ex.refl _) ⟨dn, en, rfl⟩
      intro H7 acc2 e7 hacc2 hla2 hr2
      have ea := acc_map (xs := dueOf wd e) (f := fun d => V.bl (decide (d ∈ kindsT wd t))) (by omega) hr2
      have ea2 : acc2 = ((dueOf wd e).map fun d => decide (d ∈ kindsT wd t)).map V.bl := by rw [ea, List.map_map]; rfl
      subst ea2
      have e57 := e5.trans e7
      refine ⟨D2, _, rfl, sqL hacc2, ?_⟩
      walk_at "go"
      refine i_b (fun c => ?_) fun c => ?_
      · walk_at "go"
        refine ⟨acc.map V.int, e7 _ _ hacc, Nat.lt_of_le_of_lt (by rw [List.length_map]; omega : (acc.map V.int).length ≤ 1000) (by decide), e57.at_new hDx, acc ++ [0 + ((j : Nat) : Int)], by rw [upd_same, List.map_append]; rfl, by rw [List.length_append, List.length_singleton]; omega, fun m hm => ?_⟩
        rcases List.mem_append.1 hm with hm | hm
        · exact hal m hm
        · exact ⟨j, e, by have := List.mem_singleton.1 hm; omega, et, all_ints c⟩
      · exact ⟨e57, acc, e7 _ _ hacc, by omega, hal⟩
    rintro H5 ⟨e5, able, hable, hla, hal⟩
    have S5 := S.ex e5
    have lab : (able.map V.int).length = able.length := List.length_map _
    have nab : Dx ≠ p := S.bx.ne hDx
    have fin : ∀ {H9 : Hp} {a7 a8 a9 a10 a11 a12 a13 : Option V} {t' : Tr} {rvs' : List V}, TreeS p R Kd wd H1 H9 t' rvs' → t'.length ≤ i + 1 →
        (∃ o6 o7 o8 o9 o10 o11 o12 o13, [some (.ref p), some v, some (.int (most : Nat)), some (.ref ml), some (.ref R), some (.ref Kd), some (.int (0 + (i : Nat))), a7, a8, a9, a10, a11, a12, a13, none, none] = [some (.ref p), some v, some (.int (most : Nat)), some (.ref ml), some (.ref R), some (.ref Kd), o6, o7, o8, o9, o10, o11, o12, o13, none, none]) ∧ ∃ t rvs, TreeS p R Kd wd H1 H9 t rvs ∧ t.length ≤ i + 1 := fun S l => ⟨⟨_, _, _, _, _, _, _, _, rfl⟩, _, _, S, l⟩
    walk_at "go"
    refine i_d (fun c => ?_) fun c => ?_
    rotate_left
    · walk_at "go"
      exact fin S5 (by omega)
    walk_at "go"
    refine ⟨p, _, rfl, S5.bx, by omega, Nat.lt_of_lt_of_le (Bits.log (n := 10) (show (((able.map V.int).length : Nat) : Int).natAbs < 2 ^ 10 by omega)) (by decide), fun fi H6 fi0 fi1 b6 hb6 => ?_⟩
    have S6 := S5.but b6 hb6
    obtain ⟨m, hm, em⟩ := atI_map V.int (l := able) fi0 (by omega)
    obtain ⟨k, e, rfl, et, hdue⟩ := hal m (List.mem_of_getElem? hm)
    obtain ⟨x, hx⟩ : ∃ x, us[k]? = some x := ⟨_, List.getElem?_eq_getElem (by have := (List.getElem?_eq_some_iff.1 et).1; omega)⟩
    obtain ⟨e', et', p1, t1, rfl, hp1, ht1⟩ := hDu.2 k x hx
    rw [et] at et'
    cases et'
    rw [dueOf_vals] at ht1
    have hem := List.mem_of_getElem? et
    obtain ⟨ek, dl, d2, din⟩ := dueOf_in ok hem
    have tk6 := hb1.tk S6.bt
    have tname : TextOk e.2.1 := by
      obtain ⟨k, hk, hm⟩ := tab_inv hem
      exact isName_text (ok.mkr k hk e.2 hm).1
    walk_at "go"
    refine g_ixL (b6 _ _ nab hable) em ?_
    walk_at "go"
    refine g_ixL (S6.bt _ _ nml hml) (atI_nat hx) ?_
    refine g_tup3 (tk6 _ _ hp1) ?_
    walk_at "go"
    refine g_new fun N hN => ?_
    have fN := Ex.new (o := .lst []) hN
    have hN0 := S6.free hN
    have nRN : R ≠ N := ne_of_none S6.atR hN
    have nKN : Kd ≠ N := ne_of_none S6.atK hN
    have S11 := S6.ex fN
    have ht11 := fN _ _ (tk6 _ _ ht1)
    walk_at "go"
    refine g_seqTs ?_
    walk_at "go"
    refine ⟨_, rfl, ⟨_, sqT ht11⟩, ?_⟩
    refine for_it walk_tup (fun j σ H12 => (∃ o12 o13, σ = [some (.ref p), some v, some (.int (most : Nat)), some (.ref ml), some (.ref R), some (.ref Kd), some (.int (0 + (i : Nat))), some (.ref Dx), some (.str e.2.1), some (.int (e.1 : Nat)), some (.ref t1), some (.ref N), o12, o13, none, none]) ∧ TreeS p R Kd wd H1 H12 t rvs ∧ H12 t1 = some (.tup ((dueOf wd e).map V.int)) ∧ ∃ ns : List Int, H12 N = some (.lst (ns.map V.int)) ∧ ns.length = j ∧ ∀ (m : Nat) (n d : Int), ns[m]? = some n → (dueOf wd e)[m]? = some d → 0 ≤ n ∧ n < ((kindsT wd t).length : Nat) ∧ (kindsT wd t)[n.toNat]? = some d) ⟨⟨_, _, rfl⟩, S11, ht11, [], upd_same, rfl, fun m n d z => by simp at z⟩ (fun j σ H12 _ h => sqT h.2.2.1) ?_ ?_
    · rintro j x H12 H12' H13 hj ⟨⟨o12, o13, rfl⟩, S12, ht12, ns, hns, lns, hok⟩ ⟨rfl, hx⟩
      rw [List.length_map] at hj
      rw [List.getElem?_map] at hx
      cases ed : (dueOf wd e)[j]? with
      | none => rw [ed] at hx; cases hx
      | some dn =>
      rw [ed] at hx
      cases hx
      have hin := hdue dn (List.mem_of_getElem? ed)
      have lrv := S12.len
      walk_at "go"
      refine g_lenL S12.atR ?_
      walk_at "go"
      refine ⟨_, rfl, by omega, by omega, fun A hA => ?_⟩
      rw [Int.toNat_natCast]
      have hA0 := S12.free hA
      have nAN : N ≠ A := ne_of_none hns hA
      have nAp := S12.np hA0
      refine lc_it walk_range (fun j2 H14 => Ex H13 H14 ∧ ∃ acc : List Int, H14 A = some (.lst (acc.map V.int)) ∧ acc.length ≤ j2 ∧ (∀ n ∈ acc, 0 ≤ n ∧ n < ((kindsT wd t).length : Nat) ∧ (kindsT wd t)[n.toNat]? = some dn) ∧ ∀ m < j2, (kindsT wd t)[m]? = some dn → acc ≠ []) ⟨Ex.new hA, [], upd_same, Nat.le_refl _, fun n z => (nomatch z), fun m z => absurd z (Nat.not_lt_zero _)⟩ (fun _ _ _ _ => trivial) ?_ ?_
      · rintro j2 x H14 H15 hj2 ⟨e14, acc, hacc, hla, hal, hne⟩ ⟨rfl, rfl⟩
        obtain ⟨kn, ek⟩ : ∃ kn, (kindsT wd t)[j2]? = some kn := ⟨_, List.getElem?_eq_getElem (by omega)⟩
        have lt2 := (List.getElem?_eq_some_iff.1 ek).1
        walk_at "go"
        refine ⟨rfl, ?_⟩
        walk_at "go"
        refine g_ixL (e14 _ _ S12.atK) (i := 0 + (j2 : Nat)) (v := .int kn) (by rw [Int.zero_add]; exact atI_nat (by rw [List.getElem?_map, ek]; rfl)) ?_
        walk_at "go"
        refine i_eqI (fun c => ?_) fun c => ?_
        · walk_at "go"
          refine ⟨acc.map V.int, hacc, Nat.lt_of_le_of_lt (by rw [List.length_map]; omega : (acc.map V.int).length ≤ 1000) (by decide), e14.at_new hA, acc ++ [0 + ((j2 : Nat) : Int)], by rw [upd_same, List.map_append]; rfl, by rw [List.length_append, List.length_singleton]; omega, fun n hn => ?_, fun m _ _ z => by simp at z⟩
          rcases List.mem_append.1 hn with hn | hn
          · exact hal n hn
          · rw [List.mem_singleton.1 hn, Int.zero_add]
            exact ⟨by omega, by omega, by rw [Int.toNat_natCast, ek, c]⟩
        · refine ⟨e14, acc, hacc, by omega, hal, fun m hm hk => ?_⟩
          by_cases c2 : m = j2
          · subst c2
            rw [ek] at hk
            exact absurd (Option.some.inj hk) c
          · exact hne m (by omega) hk
      · rintro H14 ⟨e14, acc, hacc, hla, hal, hne⟩
        have accne : acc ≠ [] := by
          obtain ⟨m, hm⟩ := List.mem_iff_getElem?.1 hin
          exact hne m (by have := (List.getElem?_eq_some_iff.1 hm).1; omega) hm
        have apos : 0 < acc.length := List.length_pos_iff.2 accne
        have lam : (acc.map V.int).length = acc.length := List.length_map _
        have S14 := S12.ex e14
        have hns14 := e14 _ _ hns
        walk_at "go"
        refine ⟨p, _, rfl, S14.bx, by omega, Nat.lt_of_lt_of_le (Bits.log (n := 10) (show (((acc.map V.int).length : Nat) : Int).natAbs < 2 ^ 10 by omega)) (by decide), fun x1 H15 x10 x11 b15 hb15 => ?_⟩
        have S15 := S14.but b15 hb15
        have hacc15 := b15 _ _ nAp hacc
        walk_at "go"
        refine ⟨p, _, rfl, hb15, by omega, Nat.lt_of_lt_of_le (Bits.log (n := 10) (show (((acc.map V.int).length : Nat) : Int).natAbs < 2 ^ 10 by omega)) (by decide), fun x2 H16 x20 x21 b16 hb16 => ?_⟩
        have S16 := S15.but b16 hb16
        have hacc16 := b16 _ _ nAp hacc15
        have hns16 := b16 _ _ (S15.np hN0) (b15 _ _ (S14.np hN0) hns14)
        obtain ⟨cn, hcn, ecn⟩ := atI_map V.int (l := acc) (j := ((acc.map V.int).length : Nat) - 1 - min x1 x2) (by omega) (by omega)
        walk_at "go"
        refine g_ixL hacc16 ecn ?_
        walk_at "go"
        refine g_app hns16 (Nat.lt_of_le_of_lt (by rw [List.length_map]; omega : (ns.map V.int).length ≤ 1000) (by decide)) ?_
        have t19 := tk_put (ys := ns.map V.int ++ [.int cn]) hns16
        have ht16 := S15.bx.tk b16 _ _ (S14.bx.tk b15 _ _ (e14 _ _ ht12))
        walk_at "go"
        refine ⟨⟨_, _, rfl⟩, { S16 with bt := S16.bt.at_new hN0, bx := S16.bx.at_upd (S16.np hN0), atR := by rw [upd_ne nRN]; exact S16.atR, atK := by rw [upd_ne nKN]; exact S16.atK, reps := S16.reps.tk t19 (rows_hard t) }, t19 _ _ ht16, ns ++ [cn], by rw [upd_same, List.map_append]; rfl, by rw [List.length_append, lns]; rfl, fun m n d hm hd => ?_⟩
        by_cases c : m < ns.length
        · rw [List.getElem?_append_left c] at hm
          exact hok m n d hm hd
        · rw [List.getElem?_append_right (by omega)] at hm
          have em : m = j := by
            have := (List.getElem?_eq_some_iff.1 hm).1
            simp at this
            omega
          subst em
          rw [lns, Nat.sub_self] at hm
          cases hm
          rw [ed] at hd
          cases hd
          exact hal _ (List.mem_of_getElem? hcn)
    · rintro σ H12 ⟨⟨o12, o13, rfl⟩, S12, ht12, ns, hns, lns, hok⟩
      rw [List.length_map] at lns
      have hst : stands wd (kindsT wd t) (e.2.1, ns) = true := stands_of ok.nd hem lns hok
      have hkat : kindAt wd e.2.1 = (e.1 : Nat) := by unfold kindAt; rw [mkOf_mem ok.nd hem]
      walk_at "go"
      refine g_tyL S12.atR ?_
      walk_at "go"
      refine g_tupOf hns fun tn htn => ?_
      walk_at "go"
      refine g_new fun rw0 hrw => ?_
      have f1 := Ex.new (o := .tup (ns.map V.int)) htn
      have f2 := Ex.new (o := .tup [.str e.2.1, .ref tn]) hrw
      have S14 := (S12.ex f1).ex f2
      have rr := row_rep (s := e.2.1) (ns := ns) (@upd_same (upd H12 tn (.tup (ns.map V.int))) rw0 (.tup [.str e.2.1, .ref tn])) (f2 _ _ upd_same)
      revert S14 rr
      generalize upd (upd H12 tn (.tup (ns.map V.int))) rw0 (.tup [.str e.2.1, .ref tn]) = H14
      intro S14 rr
      have lr := S14.len
      walk_at "go"
      refine g_app S14.atR (Nat.lt_of_le_of_lt (by omega : rvs.length ≤ 1000) (by decide)) ?_
      have aK : (upd H14 R (.lst (rvs ++ [.ref rw0]))) Kd = some (.lst ((kindsT wd t).map V.int)) := by rw [upd_ne (Ne.symm S14.RK)]; exact S14.atK
      walk_at "go"
      refine g_app aK (Nat.lt_of_le_of_lt (by rw [List.length_map]; omega : ((kindsT wd t).map V.int).length ≤ 1000) (by decide)) ?_
      have S15 := S14.app rr hst tname (by show ns.length ≤ 2; omega)
      rw [show (kindAt wd (e.2.1, ns).1) = ((e.1 : Nat) : Int) from hkat] at S15
      walk_at "go"
      exact fin S15 (by rw [List.length_append, List.length_singleton]; omega)
  · rintro σ Hc ⟨⟨o6, o7, o8, o9, o10, o11, o12, o13, rfl⟩, t, rvs, S, lt⟩
    walk_at "go"
    refine g_tupOf S.atR fun u hu => ?_
    have S3 := S.ex (Ex.new (o := .tup rvs) hu)
    refine q t _ _ (by omega) S.go S.row (Rep.tupO upd_same S3.reps) ((e1.but p).trans S3.bt) S3.bx

theorem ok_law_letters (T : Txt K mg) : FnOk P w K mg base (L2.CX P w) 2 T.a_law_letters T.d_law_letters ["_law_box_here", "_law_many"] spLetters := by
  refine T.F_law_letters.okX sc_law_letters (fun vs H Q E h => ?_) (fun cdv A outer s H vs Q E hr h => ?_)
  · obtain ⟨_, _, rfl, _⟩ := h
    rfl
  obtain ⟨p, many, rfl, hb, m1, m9, q⟩ := h
  refine ⟨_, (pss_cons (ps_set (i := 2) sc_law_letters.nd rfl (by first | exact Or.inl rfl | exact Or.inr rfl) (pe_callTy (call_listS rfl) rfl T.z_list boot_list (pa_cons pe_str pa_nil)))
      (pss_one (ps_ret (pe_join pe_str (pe_lc (own := [("_law_k", 3)]) (g := gName 3) rfl sc_law_letters.nd (pi_range1 rfl T.z_range (pa_cons (uv 1) pa_nil)) (blkOk_by (own := [("_law_k", 3)]) (N := N_law_letters) (sc := defScope s_law_letters) (by decide +kernel)) (fun _ _ _ _ _ => (pg_name (i := 3) sc_law_letters.nd rfl (by first | exact Or.inl rfl | exact Or.inr rfl))) (fun _ _ _ _ _ => pts_nil) (fun _ _ _ _ _ => (show PE _ _ (tBM K "list" rPopAt _ _) from (pe_bm PySem.F.plainAttrs_list PySem.F.slot_list_pop PySem.F.type_list_pop mt_popAt (uv 2) (pa_cons (pe_callD (ok_law_take T) (hr.mono (by decide)) rfl T.m_law_take T.F_law_take.kp T.b_law_take .nil (fun _ => passAt0) (pa_cons (uv 0) (pa_cons (pe_callB (show CallR _ (.builtin "len") (uLen K) from uk_len) rfl T.z_len boot_len (pa_cons (uv 2) pa_nil)) pa_nil))) pa_nil))))))))), ?_⟩
  walk_at "go"
  refine g_listS (x := signS) (by decide +kernel) fun L hL => ?_
  have hL1 := @upd_same H L (.lst (ones signS))
  have e1 := Ex.new (o := .lst (ones signS)) hL
  have nL := hb.ne hL
  have hb1 := hb.ex e1
  rw [show ones signS = signL.map sgV from by unfold ones; rw [signS_list]; rfl] at hL1 e1 hb1
  rw [show ones signS = signL.map sgV from by unfold ones; rw [signS_list]; rfl]
  revert hL1 e1 hb1
  generalize upd H L (.lst (signL.map sgV)) = H1
  intro hL1 e1 hb1
  walk_at "go"
  refine g_m1 ?_
  walk_at "go"
  refine ⟨_, rfl, by omega, by omega, fun D hD => ?_⟩
  rw [Int.toNat_natCast]
  have nDL : L ≠ D := ne_of_none hL1 hD
  have nD := hb1.ne hD
  refine lc_it walk_range (fun i H2 => But p H H2 ∧ Box H2 p ∧ ∃ got rest : List Nat, H2 D = some (.lst (got.map sgV)) ∧ H2 L = some (.lst (rest.map sgV)) ∧ got.length = i ∧ (got ++ rest).Perm signL) ⟨(e1.trans (Ex.new hD)).but p, hb1.ex (Ex.new hD), [], signL, upd_same, Ex.new hD _ _ hL1, rfl, List.Perm.refl _⟩ (fun _ _ _ _ => trivial) ?_ ?_
  · rintro i x H2 H2' hi ⟨b2, hb2, got, rest, hD2, hL2, lg, pm⟩ ⟨rfl, rfl⟩
    have lr : got.length + rest.length = 93 := by rw [← List.length_append, pm.length_eq, signL_len]
    walk_at "go"
    refine ⟨rfl, ?_⟩
    walk_at "go"
    rw [List.length_map]
    refine ⟨p, _, rfl, hb2, by omega, Nat.lt_of_lt_of_le (Bits.log (n := 10) (show ((rest.length : Nat) : Int).natAbs < 2 ^ 10 by omega)) (by decide), fun d H3 d0 d1 b3 hb3 => ?_⟩
    obtain ⟨k, rfl⟩ := Int.eq_ofNat_of_zero_le d0
    obtain ⟨c, hc⟩ : ∃ c, rest[k]? = some c := ⟨_, List.getElem?_eq_getElem (by omega)⟩
    walk_at "go"
    refine g_popAt (y := sgV c) (b3 _ _ nL hL2) (by rw [List.length_map]; omega) (by rw [List.getElem?_map, hc]; rfl) ?_
    rw [map_erase]
    refine ⟨got.map sgV, by rw [upd_ne (Ne.symm nDL)]; exact b3 _ _ nD hD2, Nat.lt_of_le_of_lt (by rw [List.length_map]; omega : (got.map sgV).length ≤ 1000) (by decide), ?_⟩
    refine ⟨((b2.trans b3).at_new hL).at_new (e1.free hD), (hb3.at_upd nL).at_upd nD, got ++ [c], rest.eraseIdx k, by rw [upd_same, List.map_append]; rfl, by rw [upd_ne nDL, upd_same], by rw [List.length_append, lg]; rfl, ?_⟩
    rw [List.append_assoc]
    exact (List.Perm.append_left got (perm_erase rest k c hc).symm).trans pm
  · rintro H2 ⟨b2, hb2, got, rest, hD2, hL2, lg, pm⟩
    have lw : ∀ c ∈ got, c ∈ signL := fun c hc => pm.mem_iff.1 (List.mem_append_left _ hc)
    have nd : got.Nodup := (List.nodup_append.1 (pm.nodup_iff.2 signL_nd)).1
    have hD3 : H2 D = some (.lst ((got.map one).map V.str)) := by rw [List.map_map]; exact hD2
    refine ⟨"", D, got.map one, rfl, rfl, .inl (sqL hD3), joinB (by omega), ?_⟩
    have ec : (Txt.join "" (got.map one)).cps.toList = got := joinOnes got
    refine q _ _ ⟨by rw [str_len, ec]; omega, by rw [str_len, ec]; omega, by rw [ec]; exact nd, fun c hc => ?_⟩ b2 hb2
    rw [ec] at hc
    exact signL_low (lw c hc)

theorem ok_law_item_text (T : Txt K mg) : FnOk P w K mg base (L2.CX P w) 2 T.a_law_item_text T.d_law_item_text ["_law_box_here", "_law_letters_here"] spItemT := by
  refine T.F_law_item_text.okX sc_law_item_text (fun vs H Q E h => ?_) (fun cdv A outer s H vs Q E hr h => ?_)
  · obtain ⟨_, _, rfl, _⟩ := h
    rfl
  obtain ⟨p, ls, rfl, hb, l1, l9, q⟩ := h
  refine ⟨_, (pss_cons (ps_set (i := 2) sc_law_item_text.nd rfl (by first | exact Or.inl rfl | exact Or.inr rfl) (pe_op uo_add pe_int (pe_callD (ok_law_take T) (hr.mono (by decide)) rfl T.m_law_take T.F_law_take.kp T.b_law_take .nil (fun σ => passAt (takes_of rfl rfl rfl rfl) σ) (pa_cons (uv 0) (pa_cons (pe_ix ux_seq (pe_lst (pa_cons pe_int (pa_cons pe_int (pa_cons pe_int pa_nil)))) (pe_callD (ok_law_take T) (hr.mono (by decide)) rfl T.m_law_take T.F_law_take.kp T.b_law_take .nil (fun σ => passAt (takes_of rfl rfl rfl rfl) σ) (pa_cons (uv 0) (pa_cons pe_int pa_nil))) (fun _ _ => rfl)) pa_nil)))))
      (pss_one (ps_ret (pe_join pe_str (pe_lc (own := [("_law_k", 3)]) (g := gName 3) rfl sc_law_item_text.nd (pi_range1 rfl T.z_range (pa_cons (uv 2) pa_nil)) (blkOk_by (own := [("_law_k", 3)]) (N := N_law_item_text) (sc := defScope s_law_item_text) (by decide +kernel)) (fun _ _ _ _ _ => (pg_name (i := 3) sc_law_item_text.nd rfl (by first | exact Or.inl rfl | exact Or.inr rfl))) (fun _ _ _ _ _ => pts_nil) (fun _ _ _ _ _ => (pe_ix (show IxR _ (uIx K) from ux_seq) (uv 1) (pe_callD (ok_law_take T) (hr.mono (by decide)) rfl T.m_law_take T.F_law_take.kp T.b_law_take .nil (fun _ => passAt0) (pa_cons (uv 0) (pa_cons (pe_callB (show CallR _ (.builtin "len") (uLen K) from uk_len) rfl T.z_len boot_len (pa_cons (uv 1) pa_nil)) pa_nil))) (fun _ _ => rfl)))))))), ?_⟩
  walk_at "go"
  refine g_new fun l hl => ?_
  have hl1 := @upd_same H l (.lst [.int 2, .int 2, .int 8])
  have e1 := Ex.new (o := .lst [.int 2, .int 2, .int 8]) hl
  have nl := hb.ne hl
  have hb1 := hb.ex e1
  revert hl1 e1 hb1
  generalize upd H l (.lst [.int 2, .int 2, .int 8]) = H1
  intro hl1 e1 hb1
  walk_at "go"
  refine ⟨p, 3, rfl, hb1, by decide, by decide, fun d H2 d0 d1 b2 hb2 => ?_⟩
  have em : ∃ m : Int, atI [V.int 2, .int 2, .int 8] d = some (.int m) ∧ 2 ≤ m ∧ m ≤ 8 := by
    have z : d = 0 ∨ d = 1 ∨ d = 2 := by omega
    rcases z with rfl | rfl | rfl <;> exact ⟨_, rfl, by decide, by decide⟩
  obtain ⟨m, em, m0, m1⟩ := em
  walk_at "go"
  refine g_ixL (b2 _ _ nl hl1) em ?_
  walk_at "go"
  refine ⟨p, m, rfl, hb2, by omega, Nat.lt_of_lt_of_le (Bits.log (n := 10) (show m.natAbs < 2 ^ 10 by omega)) (by decide), fun n H3 n0 n1 b3 hb3 => ?_⟩
  obtain ⟨k, rfl⟩ := Int.eq_ofNat_of_zero_le n0
  walk_at "go"
  refine g_m1 ?_
  walk_at "go"
  refine ⟨_, rfl, by omega, by omega, fun D hD => ?_⟩
  refine lc_mapB walk_range p (fun _ _ v => ∃ c, v = V.str ⟨#[c]⟩ ∧ c ∈ ls.cps.toList) (by omega) hD hb3 (fun _ _ _ _ _ r => r) (fun _ _ => trivial) ?_ ?_
  · rintro i x H6 H7 P N hi e6 hb6 ⟨rfl, rfl⟩ kk
    walk_at "go"
    refine ⟨rfl, ?_⟩
    walk_at "go"
    refine g_lenStr (by omega) ?_
    walk_at "go"
    refine ⟨p, _, rfl, hb6, by omega, Nat.lt_of_lt_of_le (Bits.log (n := 10) (show ((ls.length : Nat) : Int).natAbs < 2 ^ 10 by omega)) (by decide), fun j H8 j0 j1 b8 hb8 => ?_⟩
    walk_at "go"
    obtain ⟨c, ec, hc⟩ := atI_ex (l := ls.cps.toList) j0 (by rw [← str_len]; omega)
    refine g_ixS (z := ls) ec (by omega) ?_
    exact kk _ _ b8 hb8 ⟨c, rfl, List.mem_of_getElem? hc⟩
  intro H4 acc e4 hb4 hacc hla hr2
  obtain ⟨cs, rfl, hcl, hcs⟩ := acc_ones hla hr2
  refine ⟨"", D, cs.map one, rfl, rfl, .inl (sqL hacc), joinB (by omega), ?_⟩
  have ec := joinOnes cs
  exact q _ _ (by rw [str_len, ec]; omega) (by rw [str_len, ec]; omega) (fun c hc => by rw [ec] at hc; exact hcs c hc) (((e1.but p).trans b2).trans (b3.trans e4)) hb4

theorem ok_law_text_counts (T : Txt K mg) : FnOk P w K mg base (L2.CX P w) 2 T.a_law_text_counts T.d_law_text_counts ["_law_box_here", "_law_wood_here", "_law_most"] spTextCounts := by
  refine T.F_law_text_counts.okX sc_law_text_counts (fun vs H Q E h => ?_) (fun cdv A outer s H vs Q E hr h => ?_)
  · obtain ⟨_, _, _, _, rfl, _⟩ := h
    rfl
  obtain ⟨p, wd, v, most, rfl, hb, rv, ok, hm, q⟩ := h
  refine ⟨_, (pss_cons (ps_set (i := 3) sc_law_text_counts.nd rfl (by first | exact Or.inl rfl | exact Or.inr rfl) (pe_lst pa_nil))
      (pss_cons (ps_for (passes_of rfl) rfl (ui_seq (uv 1)) (pg_name (i := 4) sc_law_text_counts.nd rfl (by first | exact Or.inl rfl | exact Or.inr rfl)) (pss_one (ps_expr (pe_bm PySem.F.plainAttrs_list PySem.F.slot_list_append PySem.F.type_list_append mt_append (uv 3) (pa_cons (pe_callD (ok_law_take T) (hr.mono (by decide)) rfl T.m_law_take T.F_law_take.kp T.b_law_take .nil (fun σ => passAt (takes_of rfl rfl rfl rfl) σ) (pa_cons (uv 0) (pa_cons (pe_op uo_add (pe_callB (uk_min2 rfl) rfl T.z_min boot_min (pa_cons pe_int (pa_cons (pe_op uo_sub (uv 2) (pe_callB (cr_sum rfl) rfl T.z_sum boot_sum (pa_cons (uv 3) pa_nil))) pa_nil))) pe_int) pa_nil))) pa_nil)))))
      (pss_one (ps_ret (pe_callTy uk_tup rfl T.z_tuple boot_tuple (pa_cons (uv 3) pa_nil)))))), ?_⟩
  obtain ⟨wa, wx, rfl, hwa, rs⟩ := id rv.tupI
  have lx : wx.length = wd.length := by rw [rs.len, List.length_map]
  have pk := ok.kinds
  have nwa : wa ≠ p := hb.tkne (Ex.refl _) hwa
  walk_at "go"
  refine g_new fun L hL => ?_
  have nL := hb.ne hL
  walk_at "go"
  refine g_seqTs ?_
  walk_at "go"
  refine ⟨_, rfl, ⟨wx, sqT (Ex.new hL _ _ hwa)⟩, ?_⟩
  refine for_it walk_tup (fun i σ H2 => (∃ o4, σ = [some (.ref p), some (.ref wa), some (.int (most : Nat)), some (.ref L), o4]) ∧ But p H H2 ∧ Box H2 p ∧ ∃ cs : List Int, H2 L = some (.lst (cs.map V.int)) ∧ cs.length = i ∧ (∀ x ∈ cs, 0 ≤ x ∧ x ≤ 2) ∧ 0 ≤ cs.sum ∧ cs.sum ≤ (most : Nat)) ⟨⟨_, rfl⟩, (Ex.new hL).but p, hb.at_upd nL, [], upd_same, rfl, fun x z => (nomatch z), by decide, by simp⟩ (fun i σ H2 _ h => sqT (h.2.1 _ _ nwa hwa)) ?_ ?_
  · rintro i x σ H2 H2' hi ⟨⟨o4, rfl⟩, b2, hb2, cs, hL2, lc, hcs, s0, s1⟩ ⟨rfl, hx⟩
    walk_at "go"
    refine ⟨_, cs, rfl, sqL hL2, ?_⟩
    walk_at "go"
    refine ⟨p, _, rfl, hb2, by omega, Nat.lt_of_lt_of_le (Bits.log (n := 10) (show (min 2 (((most : Nat) : Int) - cs.sum) + 1).natAbs < 2 ^ 10 by omega)) (by decide), fun d H3 d0 d1 b3 hb3 => ?_⟩
    have hL3 := b3 _ _ nL hL2
    walk_at "go"
    refine g_app hL3 (Nat.lt_of_le_of_lt (by rw [List.length_map]; omega : (cs.map V.int).length ≤ 1000) (by decide)) ?_
    walk_at "go"
    refine ⟨⟨_, rfl⟩, (b2.trans b3).at_new hL, hb3.at_upd nL, cs ++ [d], by rw [upd_same, List.map_append]; rfl, by rw [List.length_append, lc]; rfl, fun x hx => ?_, ?_, ?_⟩
    · rcases List.mem_append.1 hx with hx | hx
      · exact hcs x hx
      · rw [List.mem_singleton.1 hx]
        omega
    · rw [List.sum_append, List.sum_singleton]
      omega
    · rw [List.sum_append, List.sum_singleton]
      omega
  · rintro σ H2 ⟨⟨o4, rfl⟩, b2, hb2, cs, hL2, lc, hcs, s0, s1⟩
    walk_at "go"
    refine g_tupOf hL2 fun c hc => ?_
    have e3 := Ex.new (o := .tup (cs.map V.int)) hc
    exact q _ _ _ upd_same (by omega) hcs (b2.trans (e3.but p)) (hb2.ex e3)

theorem ok_law_prints (T : Txt K mg) : FnOk P w K mg base (L2.CX P w) 2 T.a_law_prints T.d_law_prints ["_law_wood_here", "_law_printer_here", "_law_tree_here"] spPrints := by
  refine T.F_law_prints.okX sc_law_prints (fun vs H Q E h => ?_) (fun cdv A outer s H vs Q E hr h => ?_)
  · obtain ⟨_, _, _, _, _, _, rfl, _⟩ := h
    rfl
  obtain ⟨wd, pr, t, wv, pv, tv, rfl, rw1, ok, rp, lr, rt, lt, fit, q⟩ := h
  refine ⟨_, (pss_cons (ps_setLc (i := 3) (own := [("_law_maker", 5), ("_law_kind", 11), ("_law_parts", 12)]) (g := gTup K 3 (gCons (gName 5) (gCons (gName 11) (gCons (gName 12) gNil)))) rfl sc_law_prints.nd rfl rfl (sw_true rfl rfl rfl (by decide +kernel)) (ui_seq (pe_callD (ok_law_makers T) (hr.mono (by decide)) rfl T.m_law_makers T.F_law_makers.kp T.b_law_makers .nil (fun σ => passAt (takes_of rfl rfl rfl rfl) σ) (pa_cons (uv 0) pa_nil))) (blkOk_by (own := [("_law_maker", 5), ("_law_kind", 11), ("_law_parts", 12)]) (N := N_law_prints) (sc := defScope s_law_prints) (by decide +kernel)) (fun _ _ _ _ _ => (pg_tup rfl (pgs_cons (pg_name (i := 5) sc_law_prints.nd rfl (by first | exact Or.inl rfl | exact Or.inr rfl)) (pgs_cons (pg_name (i := 11) sc_law_prints.nd rfl (by first | exact Or.inl rfl | exact Or.inr rfl)) (pgs_cons (pg_name (i := 12) sc_law_prints.nd rfl (by first | exact Or.inl rfl | exact Or.inr rfl)) pgs_nil))))) (fun _ _ _ _ _ => pts_nil) (fun _ _ _ _ _ => (uv 5)))
      (pss_cons (ps_set (i := 4) sc_law_prints.nd rfl (by first | exact Or.inl rfl | exact Or.inr rfl) (pe_lst pa_nil))
      (pss_cons (ps_for (passes_of rfl) rfl (ui_seq (uv 2)) (pg_tup rfl (pgs_cons (pg_name (i := 5) sc_law_prints.nd rfl (by first | exact Or.inl rfl | exact Or.inr rfl)) (pgs_cons (pg_name (i := 6) sc_law_prints.nd rfl (by first | exact Or.inl rfl | exact Or.inr rfl)) pgs_nil))) (pss_cons (ps_set (i := 7) sc_law_prints.nd rfl (by first | exact Or.inl rfl | exact Or.inr rfl) (pe_lst pa_nil))
      (pss_cons (ps_for (passes_of rfl) rfl (ui_seq (pe_ix ux_seq (pe_ix ux_seq (uv 1) pe_int (fun _ _ => rfl)) (pe_bm PySem.F.plainAttrs_list PySem.F.slot_list_index PySem.F.type_list_index mt_index (uv 3) (pa_cons (uv 5) pa_nil)) (fun _ _ => rfl))) (pg_name (i := 8) sc_law_prints.nd rfl (by first | exact Or.inl rfl | exact Or.inr rfl)) (pss_cons (ps_set (i := 9) sc_law_prints.nd rfl (by first | exact Or.inl rfl | exact Or.inr rfl) pe_str)
      (pss_cons (ps_for (passes_of rfl) rfl (ui_seq (uv 8)) (pg_name (i := 10) sc_law_prints.nd rfl (by first | exact Or.inl rfl | exact Or.inr rfl)) (pss_cons (ps_if (ut (pe_callB uk_is rfl T.z_isinstance boot_isinstance (pa_cons (uv 10) (pa_cons (pe_bltn (v := .ty "tuple") rfl T.z_tuple boot_tuple rfl) pa_nil)))) (pss_one (ps_set (i := 10) sc_law_prints.nd rfl (by first | exact Or.inl rfl | exact Or.inr rfl) (pe_ix ux_seq (pe_ix ux_seq (uv 4) (pe_ix ux_seq (uv 6) (pe_ix ux_seq (uv 10) pe_int (fun _ _ => rfl)) (fun _ _ => rfl)) (fun _ _ => rfl)) (pe_ix ux_seq (uv 10) pe_int (fun _ _ => rfl)) (fun _ _ => rfl)))) pss_nil)
      (pss_one (ps_set (i := 9) sc_law_prints.nd rfl (by first | exact Or.inl rfl | exact Or.inr rfl) (pe_op uo_add (uv 9) (uv 10))))))
      (pss_one (ps_expr (pe_bm PySem.F.plainAttrs_list PySem.F.slot_list_append PySem.F.type_list_append mt_append (uv 7) (pa_cons (uv 9) pa_nil)))))))
      (pss_one (ps_expr (pe_bm PySem.F.plainAttrs_list PySem.F.slot_list_append PySem.F.type_list_append mt_append (uv 4) (pa_cons (pe_callTy uk_tup rfl T.z_tuple boot_tuple (pa_cons (uv 7) pa_nil)) pa_nil)))))))
      (pss_one (ps_ret (uv 4)))))), ?_⟩
  have tabl := ok.many
  obtain ⟨wv0, wvx, rfl, hwv, rwv⟩ := id rw1.tupI
  obtain ⟨pa, c, b, xs, rfl, hpa, _, hbb, rx⟩ := pr_at rp
  have lxs : xs.length = pr.2.2.length := by rw [rx.len, List.length_map]
  obtain ⟨ta, ts, rfl, hta, rts⟩ := id (Rep.tupI (show Rep H (.tup (t.map rowD)) tv from rt))
  have lts : ts.length = t.length := by rw [rts.len, List.length_map]
  have ndn := ok.nd
  walk_at "go"
  refine g_seqLs ?_
  walk_at "go"
  refine ⟨wd, _, rfl, rw1, ok, fun ml H1 us e1 hml hDu => ?_⟩
  have lus := hDu.1
  walk_at "go"
  refine ⟨_, rfl, ⟨_, sqL hml⟩, fun D hD => ?_⟩
  refine lc_mapE walk_list (fun u H8 v => ∃ e, (tabFrom 0 wd)[u]? = some e ∧ v = V.str e.2.1) (by omega) hD (fun _ _ _ _ _ z => z) (fun H8 e => sqL (e _ _ hml)) ?_ ?_
  · rintro u x H8 H9 P N2 hu e8 ⟨rfl, hx⟩ k
    obtain ⟨e, et, p1, t1, rfl, hp1, ht1⟩ := hDu.2 u x hx
    refine g_tup3 (e8 _ _ hp1) ?_
    walk_at "go"
    refine ⟨rfl, ?_⟩
    walk_at "go"
    exact k _ _ (Ex.refl _) ⟨e, et, rfl⟩
  intro H2 acc e2 hacc hla hr2
  have ea := acc_mapS (xs := tabFrom 0 wd) (f := fun e => e.2.1) (by omega) hr2
  subst ea
  have e02 := e1.trans e2
  walk_at "go"
  refine g_new fun F hF => ?_
  have hF0 := e02.free hF
  walk_at "go"
  refine g_seqTs ?_
  walk_at "go"
  have eF := Ex.new (o := .lst []) hF
  refine ⟨_, rfl, ⟨_, sqT (eF _ _ (e02 _ _ hta))⟩, ?_⟩
  refine for_it walk_tup (fun i σ H4 => (∃ o5 o6 o7 o8 o9 o10, σ = [some (.ref wv0), some (.ref pa), some (.ref ta), some (.ref D), some (.ref F), o5, o6, o7, o8, o9, o10, none, none]) ∧ Ex H2 H4 ∧ ∃ fv, H4 F = some (.lst fv) ∧ Reps H4 ((prints wd pr (t.take i)).map txsD) fv) ⟨⟨_, _, _, _, _, _, rfl⟩, eF, [], upd_same, by simp only [List.take_zero, prints, foldV, List.foldl, List.map, Reps]⟩ (fun i σ H4 _ h => sqT ((e02.trans h.2.1) _ _ hta)) ?_ ?_
  · rintro i x σ H4a H4 hi ⟨⟨o5, o6, o7, o8, o9, o10, rfl⟩, e4, fv, hfv, rfv⟩ ⟨rfl, hx⟩
    replace hx : ts[i]? = some x := hx
    obtain ⟨dd, hdd, rd⟩ := rts.get hx
    rw [List.getElem?_map] at hdd
    cases er : t[i]? with
    | none => rw [er] at hdd; cases hdd
    | some row =>
    rw [er] at hdd
    cases hdd
    have RF := fit i row er
    obtain ⟨jj, ee, hj1, hj2, hj3⟩ := RF.made
    have two := RF.two
    have li : i ≤ t.length := Nat.le_of_lt (List.getElem?_eq_some_iff.1 er).1
    have lac : (prints wd pr (t.take i)).length = i := by rw [prints_len, List.length_take]; omega
    have lfv : fv.length = i := by rw [rfv.len, List.length_map, lac]
    obtain ⟨xv, exv, rxv⟩ := rx.at (i := jj) (d := rpD (ruleP wd pr row.1)) (by rw [List.getElem?_map, hj3]; rfl)
    obtain ⟨sa, svs, rfl, hsa, rsv⟩ := id (Rep.tupI (show Rep H (.tup ((ruleP wd pr row.1).map rwD)) xv from rxv))
    have lsv : svs.length = (ruleP wd pr row.1).length := by rw [rsv.len, List.length_map]
    have lrule := RF.rule
    obtain ⟨rp', y, z, rfl, hrp, ry, rz⟩ := rd.twoI
    cases ry.strI
    obtain ⟨np, nv, rfl, hnp, rn⟩ := rz.tupI
    rw [rn.ints] at hnp
    have e04 := e02.trans e4
    refine g_tup2 (e04 _ _ hrp) ?_
    walk_at "go"
    refine g_new fun TX hTX => ?_
    have e5 := Ex.new (o := .lst []) hTX
    have hT5 := @upd_same H4 TX (.lst [])
    have hT0 := e4.free hTX
    have nTF : TX ≠ F := fun z => by rw [z, hfv] at hTX; cases hTX
    revert e5 hT5
    generalize upd H4 TX (.lst []) = H5
    intro e5 hT5
    have e05 := e04.trans e5
    have hnp5 := e05 _ _ hnp
    walk_at "go"
    refine g_seqTs ?_
    walk_at "go"
    refine g_ixT (i := 2) (e05 _ _ hpa) rfl ?_
    walk_at "go"
    refine g_tyL (e5 _ _ (e4 _ _ hacc)) ?_
    walk_at "go"
    refine g_lidxN ndn (e5 _ _ (e4 _ _ hacc)) (j := jj) (by rw [List.getElem?_map, hj1]; show some ee.2.1 = _; rw [hj2]) ?_
    refine g_ixT (e05 _ _ hbb) (atI_nat exv) ?_
    refine ⟨_, rfl, ⟨_, sqT (e05 _ _ hsa)⟩, ?_⟩
    refine for_it walk_tup (fun u σ H6 => (∃ o8 o9 o10, σ = [some (.ref wv0), some (.ref pa), some (.ref ta), some (.ref D), some (.ref F), some (.str row.1), some (.ref np), some (.ref TX), o8, o9, o10, none, none]) ∧ Ex H4 H6 ∧ H6 TX = some (.lst ((((ruleP wd pr row.1).take u).map (joinRow (partsP (prints wd pr (t.take i)) row.2))).map V.str))) ⟨⟨_, _, _, rfl⟩, e5, hT5⟩ (fun u σ H6 _ h => sqT ((e04.trans h.2.1) _ _ hsa)) ?_ ?_
    · rintro u y σ H6a H6 hu ⟨⟨o8, o9, o10, rfl⟩, e6, hT6⟩ ⟨rfl, hy⟩
      replace hy : svs[u]? = some y := hy
      obtain ⟨d9, hd9, rd9⟩ := rsv.get hy
      rw [List.getElem?_map] at hd9
      cases e9 : (ruleP wd pr row.1)[u]? with
      | none => rw [e9] at hd9; cases hd9
      | some r9 =>
      rw [e9] at hd9
      cases hd9
      have m9 := List.mem_of_getElem? e9
      have I9 := RF.item r9 m9
      have long := RF.long r9 m9
      obtain ⟨r9a, r9v, rfl, h9a, rr9⟩ := id (Rep.tupI (show Rep H (.tup (r9.map itD)) y from rd9))
      have l9v : r9v.length = r9.length := by rw [rr9.len, List.length_map]
      have e06 := e04.trans e6
      walk_at "go"
      refine g_seqTs ?_
      walk_at "go"
      refine ⟨_, rfl, ⟨_, sqT (e06 _ _ h9a)⟩, ?_⟩
      refine for_it walk_tup (fun k σ H7 => (∃ o10, σ = [some (.ref wv0), some (.ref pa), some (.ref ta), some (.ref D), some (.ref F), some (.str row.1), some (.ref np), some (.ref TX), some (.ref r9a), some (.str (joinRow (partsP (prints wd pr (t.take i)) row.2) (r9.take k))), o10, none, none]) ∧ H6 = H7) ⟨⟨_, by rw [List.take_zero, joinRow_nil]; rfl⟩, rfl⟩ (fun k σ H7 _ h => sqT (by rw [← h.2]; exact e06 _ _ h9a)) ?_ ?_
      · rintro k y σ H7a H7 hk ⟨⟨o10, rfl⟩, eH⟩ ⟨rfl, hy⟩
        cases eH
        replace hy : r9v[k]? = some y := hy
        obtain ⟨d, hd, rd1⟩ := rr9.get hy
        rw [List.getElem?_map] at hd
        cases em : r9[k]? with
        | none => rw [em] at hd; cases hd
        | some m =>
        rw [em] at hd
        cases hd
        have jl := joinRow_le (parts := partsP (prints wd pr (t.take i)) row.2) em
        have js := joinRow_snoc (partsP (prints wd pr (t.take i)) row.2) (r9.take k) m
        rw [← take_at em] at js
        have hfv6 := e6 _ _ hfv
        have hnp6 := e06 _ _ hnp
        walk_at "go"
        cases m with
        | inl s =>
          cases rd1.strI
          refine g_isD (rd1.ex e06) (b := false) kit_st ?_
          walk_at "go"
          refine g_addS (by replace jl : _ + s.length ≤ _ := jl; omega) ?_
          walk_at "go"
          exact ⟨⟨_, by rw [js]; rfl⟩, rfl⟩
        | inr bx =>
          obtain ⟨ba, rfl, hba⟩ := bd_rep rd1
          have hba6 := e06 _ _ hba
          refine g_isD (rd1.ex e06) (b := true) kit_tt ?_
          obtain ⟨⟨b0, b1⟩, b2, b3⟩ := I9.2 bx (List.mem_of_getElem? em)
          have lpp : (partsP (prints wd pr (t.take i)) row.2).length = row.2.length := by unfold partsP; rw [List.length_map]
          obtain ⟨n, en, en2⟩ := atI_map V.int (l := row.2) (j := bx.1) b0 (by omega)
          have epp : (partsP (prints wd pr (t.take i)) row.2).getD bx.1.toNat [] = (prints wd pr (t.take i)).getD n.toNat [] := by
            unfold partsP
            rw [List.getD_eq_getElem?_getD, List.getElem?_map, en]
            rfl
          obtain ⟨n0, n1⟩ := RF.idx n (List.mem_of_getElem? en)
          obtain ⟨fx, efx, hfx⟩ := atI_ex (l := fv) n0 (by omega)
          obtain ⟨d9, hd9, rdp⟩ := rfv.get hfx
          rw [List.getElem?_map] at hd9
          cases et : (prints wd pr (t.take i))[n.toNat]? with
          | none => rw [et] at hd9; cases hd9
          | some txs =>
          rw [et] at hd9
          cases hd9
          obtain ⟨xa, tv, rfl, hxa, rts2⟩ := Rep.tupI (show Rep H4 (.tup (txs.map Bk.D.str)) fx from rdp)
          cases rts2.strs
          have eg : (partsP (prints wd pr (t.take i)) row.2).getD bx.1.toNat [] = txs := by rw [epp, List.getD_eq_getElem?_getD, et]; rfl
          rw [eg] at b3
          obtain ⟨sx, es, hs⟩ := atI_ex (l := txs.map V.str) b2 (by rw [List.length_map]; exact b3)
          rw [List.getElem?_map] at hs
          cases ey : txs[bx.2.toNat]? with
          | none => rw [ey] at hs; cases hs
          | some yy =>
          rw [ey] at hs
          cases hs
          have ej : joinIt (partsP (prints wd pr (t.take i)) row.2) (.inr bx) = yy := by
            show ((partsP (prints wd pr (t.take i)) row.2).getD bx.1.toNat []).getD bx.2.toNat "" = yy
            rw [eg, List.getD_eq_getElem?_getD, ey]
            rfl
          rw [ej] at jl js
          walk_at "go"
          refine g_ixT hnp6 en2 ?_
          refine g_ixL hfv6 efx ?_
          walk_at "go"
          refine g_ixT (e6 _ _ hxa) es ?_
          walk_at "go"
          refine g_addS (by omega) ?_
          walk_at "go"
          exact ⟨⟨_, by rw [js]; rfl⟩, rfl⟩
      · rintro σ H7 ⟨⟨o10, rfl⟩, eH⟩
        cases eH
        rw [l9v, List.take_length]
        have lTX : ((((ruleP wd pr row.1).take u).map (joinRow (partsP (prints wd pr (t.take i)) row.2))).map V.str).length ≤ 1000 := by
          rw [List.length_map, List.length_map, List.length_take]
          omega
        walk_at "go"
        refine g_app hT6 (Nat.lt_of_le_of_lt lTX (by decide)) ?_
        walk_at "go"
        refine ⟨⟨_, _, _, rfl⟩, e6.at_new hTX, ?_⟩
        rw [upd_same, take_at e9, List.map_append, List.map_append]
        rfl
    · rintro σ H6 ⟨⟨o8, o9, o10, rfl⟩, e6, hT6⟩
      rw [lsv, List.take_length] at hT6
      have hF6 := e6 _ _ hfv
      walk_at "go"
      refine g_tupOf hT6 fun q1 hq1 => ?_
      have e7 := Ex.new (o := .tup (((ruleP wd pr row.1).map (joinRow (partsP (prints wd pr (t.take i)) row.2))).map V.str)) hq1
      have hq7 := @upd_same H6 q1 (.tup (((ruleP wd pr row.1).map (joinRow (partsP (prints wd pr (t.take i)) row.2))).map V.str))
      have hF7 := e7 _ _ hF6
      revert e7 hq7 hF7
      generalize upd H6 q1 (.tup (((ruleP wd pr row.1).map (joinRow (partsP (prints wd pr (t.take i)) row.2))).map V.str)) = H7
      intro e7 hq7 hF7
      walk_at "go"
      refine g_app hF7 (Nat.lt_of_le_of_lt (by omega : fv.length ≤ 1000) (by decide)) ?_
      have tu := tk_put (ys := fv ++ [.ref q1]) hF7
      have e67 := e6.trans e7
      walk_at "go"
      refine ⟨⟨_, _, _, _, _, _, rfl⟩, (e4.trans e67).at_new hF, _, upd_same, ?_⟩
      rw [prints_take er]
      refine reps_snoc ((rfv.ex e67).tkm tu txs_hard) ?_
      refine Rep.tk tu (txs_hard _) ?_
      exact Rep.tupO hq7 (reps_strs _)
  · rintro σ H4 ⟨⟨o5, o6, o7, o8, o9, o10, rfl⟩, e4, fv, hfv, rfv⟩
    rw [lts, List.take_length] at rfv
    walk_at "go"
    exact q _ _ _ hF0 (e02.trans e4) hfv rfv

theorem ok_law_wood (T : Txt K mg) : FnOk P w K mg base (L2.CX P w) 3 T.a_law_wood T.d_law_wood ["_law_box_here", "_law_most_kinds", "_law_most_makers"] spWoodK := by
  refine T.F_law_wood.okX sc_law_wood (fun vs H Q E h => ?_) (fun cdv A outer s H vs Q E hr h => ?_)
  · obtain ⟨_, _, _, rfl, _⟩ := h
    rfl
  obtain ⟨p, mk, mm, rfl, hb, ⟨mk1, mk4⟩, ⟨mm1, mm12⟩, q⟩ := h
  refine ⟨_, (pss_cons (ps_set (i := 3) sc_law_wood.nd rfl (by first | exact Or.inl rfl | exact Or.inr rfl) (pe_op uo_add pe_int (pe_callD (ok_law_take T) (hr.mono (by decide)) rfl T.m_law_take T.F_law_take.kp T.b_law_take .nil (fun σ => passAt (takes_of rfl rfl rfl rfl) σ) (pa_cons (uv 0) (pa_cons (uv 1) pa_nil)))))
      (pss_cons (ps_set (i := 4) sc_law_wood.nd rfl (by first | exact Or.inl rfl | exact Or.inr rfl) (pe_callD (ok_law_names T) (hr.mono (by decide)) rfl T.m_law_names T.F_law_names.kp T.b_law_names .nil (fun σ => passAt (takes_of rfl rfl rfl rfl) σ) (pa_cons (uv 0) (pa_cons (pe_op uo_add (uv 3) (uv 2)) pa_nil))))
      (pss_cons (ps_set (i := 5) sc_law_wood.nd rfl (by first | exact Or.inl rfl | exact Or.inr rfl) (pe_lc (own := [("_law_k", 10)]) (g := gName 10) rfl sc_law_wood.nd (pi_range1 rfl T.z_range (pa_cons (uv 3) pa_nil)) (blkOk_by (own := [("_law_k", 10)]) (N := N_law_wood) (sc := defScope s_law_wood) (by decide +kernel)) (fun _ _ _ _ _ => (pg_name (i := 10) sc_law_wood.nd rfl (by first | exact Or.inl rfl | exact Or.inr rfl))) (fun _ _ _ _ _ => pts_nil) (fun _ _ _ _ _ => (pe_lst pa_nil))))
      (pss_cons (ps_for (passes_of rfl) rfl (pi_range1 rfl T.z_range (pa_cons (pe_op uo_add pe_int (pe_callD (ok_law_take T) (hr.mono (by decide)) rfl T.m_law_take T.F_law_take.kp T.b_law_take .nil (fun σ => passAt (takes_of rfl rfl rfl rfl) σ) (pa_cons (uv 0) (pa_cons (uv 2) pa_nil)))) pa_nil)) (pg_name (i := 6) sc_law_wood.nd rfl (by first | exact Or.inl rfl | exact Or.inr rfl)) (pss_cons (ps_set (i := 7) sc_law_wood.nd rfl (by first | exact Or.inl rfl | exact Or.inr rfl) (pe_callD (ok_law_take T) (hr.mono (by decide)) rfl T.m_law_take T.F_law_take.kp T.b_law_take .nil (fun σ => passAt (takes_of rfl rfl rfl rfl) σ) (pa_cons (uv 0) (pa_cons (uv 3) pa_nil))))
      (pss_cons (ps_set (i := 8) sc_law_wood.nd rfl (by first | exact Or.inl rfl | exact Or.inr rfl) (pe_callD (ok_law_take T) (hr.mono (by decide)) rfl T.m_law_take T.F_law_take.kp T.b_law_take .nil (fun σ => passAt (takes_of rfl rfl rfl rfl) σ) (pa_cons (uv 0) (pa_cons pe_int pa_nil))))
      (C8.pss_cut (ps_if (PW.pt (pw_and (pt_cmpR op_eq (pe_callB uk_len rfl T.z_len boot_len (pa_cons (pe_ix ux_seq (uv 5) (uv 7) (fun _ _ => rfl)) pa_nil)) pe_int (nomark _)) (pw_and1 (pt_cmpR uo_gt (pe_callD (ok_law_take T) (hr.mono (by decide)) rfl T.m_law_take T.F_law_take.kp T.b_law_take .nil (fun σ => passAt (takes_of rfl rfl rfl rfl) σ) (pa_cons (uv 0) (pa_cons pe_int pa_nil))) pe_int (nomark _))))) (pss_one (ps_set (i := 8) sc_law_wood.nd rfl (by first | exact Or.inl rfl | exact Or.inr rfl) pe_int)) pss_nil)
      (pss_cons (ps_set (i := 9) sc_law_wood.nd rfl (by first | exact Or.inl rfl | exact Or.inr rfl) (pe_callTy uk_tup rfl T.z_tuple boot_tuple (pa_cons (pe_lc (own := [("_law_p", 11)]) (g := gName 11) rfl sc_law_wood.nd (pi_range1 rfl T.z_range (pa_cons (uv 8) pa_nil)) (blkOk_by (own := [("_law_p", 11)]) (N := N_law_wood) (sc := defScope s_law_wood) (by decide +kernel)) (fun _ _ _ _ _ => (pg_name (i := 11) sc_law_wood.nd rfl (by first | exact Or.inl rfl | exact Or.inr rfl))) (fun _ _ _ _ _ => pts_nil) (fun _ _ _ _ _ => (pe_ix (show IxR _ (uIx K) from ux_seq) (uv 4) (pe_callD (ok_law_take T) (hr.mono (by decide)) rfl T.m_law_take T.F_law_take.kp T.b_law_take .nil (fun _ => passAt0) (pa_cons (uv 0) (pa_cons (uv 3) pa_nil))) (fun _ _ => rfl)))) pa_nil)))
      (pss_one (ps_expr (pe_bm PySem.F.plainAttrs_list PySem.F.slot_list_append PySem.F.type_list_append mt_append (pe_ix ux_seq (uv 5) (uv 7) (fun _ _ => rfl)) (pa_cons (pe_tup (pa_cons (pe_ix ux_seq (uv 4) (pe_op uo_add (uv 3) (uv 6)) (fun _ _ => rfl)) (pa_cons (uv 9) pa_nil))) pa_nil)))))))))
      (pss_one (ps_ret (pe_callTy uk_tup rfl T.z_tuple boot_tuple (pa_cons (pe_lc (own := [("_law_k", 10)]) (g := gName 10) rfl sc_law_wood.nd (pi_range1 rfl T.z_range (pa_cons (uv 3) pa_nil)) (blkOk_by (own := [("_law_k", 10)]) (N := N_law_wood) (sc := defScope s_law_wood) (by decide +kernel)) (fun _ _ _ _ _ => (pg_name (i := 10) sc_law_wood.nd rfl (by first | exact Or.inl rfl | exact Or.inr rfl))) (fun _ _ _ _ _ => pts_nil) (fun _ _ _ _ _ => (pe_tup (pa_cons (pe_ix (show IxR _ (uIx K) from ux_seq) (uv 4) (uv 10) (fun _ _ => rfl)) (pa_cons (pe_callTy (show CallR _ (.type "tuple") (uTup K) from uk_tup) rfl T.z_tuple boot_tuple (pa_cons (pe_ix (show IxR _ (uIx K) from ux_seq) (uv 5) (uv 10) (fun _ _ => rfl)) pa_nil)) pa_nil))))) pa_nil)))))))), ?_⟩
  walk_at "go"
  refine ⟨p, _, rfl, hb, by omega, Nat.lt_of_lt_of_le (Bits.log (n := 10) (show ((mk : Nat) : Int).natAbs < 2 ^ 10 by omega)) (by decide), fun d H1 d0 d1 b1 hb1 => ?_⟩
  obtain ⟨m, rfl⟩ := Int.eq_ofNat_of_zero_le d0
  have em1 : (1 + (m : Int)) = ((m + 1 : Nat) : Int) := by omega
  walk_at "go"
  rw [em1]
  walk_at "go"
  refine ⟨p, m + 1 + mm, by show [V.ref p, V.int (((m + 1 : Nat) : Int) + (mm : Nat))] ++ [] = _; rfl, hb1, by omega, fun nl ss H2 hsl hsn hsd hnl0 b2 hb2 hn2 => ?_⟩
  have nnp : nl ≠ p := hb1.ne hnl0
  have bB := b1.trans b2
  walk_at "go"
  refine ⟨_, rfl, by omega, by omega, fun Dr hDr => ?_⟩
  rw [Int.toNat_natCast]
  refine lc_it walk_range (fun i H8 => Ex H2 H8 ∧ ∃ ras : List Addr, H8 Dr = some (.lst (ras.map V.ref)) ∧ ras.length = i ∧ ras.Nodup ∧ ∀ r ∈ ras, H2 r = none ∧ H8 r = some (.lst []) ∧ r ≠ Dr) ⟨Ex.new hDr, [], upd_same, rfl, List.nodup_nil, fun r z => (nomatch z)⟩ (fun _ _ _ _ => trivial) ?_ ?_
  · rintro i x H8 H8' hi ⟨e, ras, hD8, hrl, hrn, hrr⟩ ⟨rfl, rfl⟩
    walk_at "go"
    refine ⟨rfl, ?_⟩
    walk_at "go"
    refine g_new fun r hr8 => ?_
    have nrD : r ≠ Dr := fun z => by rw [z, hD8] at hr8; cases hr8
    refine ⟨_, Ex.new hr8 _ _ hD8, Nat.lt_of_le_of_lt (by rw [List.length_map]; omega : (ras.map V.ref).length ≤ 10) (by decide), (e.trans (Ex.new hr8)).at_new hDr, ras ++ [r], by rw [upd_same, List.map_append]; rfl, by rw [List.length_append, hrl]; rfl, ?_, fun x hx => ?_⟩
    · refine List.nodup_append.2 ⟨hrn, List.nodup_cons.2 ⟨fun z => (nomatch z), List.nodup_nil⟩, fun x hx y hy => ?_⟩
      rw [List.mem_singleton.1 hy]
      intro z
      have := (hrr x hx).2.1
      rw [z, hr8] at this
      cases this
    · rcases List.mem_append.1 hx with hx | hx
      · obtain ⟨a1, a2, a3⟩ := hrr x hx
        exact ⟨a1, by rw [upd_ne a3]; exact Ex.new hr8 _ _ a2, a3⟩
      · rw [List.mem_singleton.1 hx]
        exact ⟨e.free hr8, by rw [upd_ne nrD]; exact upd_same, nrD⟩
  rintro H8 ⟨e8, ras, hD8, hrl, hrn, hrr⟩
  have nDp : Dr ≠ p := hb2.ne hDr
  have nrp : ∀ r ∈ ras, r ≠ p := fun r hr' => hb2.ne (hrr r hr').1
  have nrn : ∀ r ∈ ras, nl ≠ r := fun r hr' z => by rw [z, (hrr r hr').1] at hn2; cases hn2
  have bC : But p H H8 := bB.trans (e8.but p)
  have hr0 : ∀ r ∈ ras, H r = none := fun r hr' => by
    cases c : H r with
    | none => rfl
    | some o =>
      have := bB _ _ (nrp r hr') c
      rw [(hrr r hr').1] at this
      cases this
  -- the names: first the kinds', then the makers'
  have lks : (ss.take (m + 1)).length = m + 1 := by rw [List.length_take]; omega
  have lns : (ss.drop (m + 1)).length = mm := by rw [List.length_drop]; omega
  have ekk : ∀ j, j < m + 1 → (ss.take (m + 1))[j]? = ss[j]? := fun j hj => by rw [List.getElem?_take, if_pos hj]
  have enn : ∀ j, (ss.drop (m + 1))[j]? = ss[m + 1 + j]? := fun j => List.getElem?_drop
  obtain ⟨ks, eks⟩ : ∃ ks, ks = ss.take (m + 1) := ⟨_, rfl⟩
  obtain ⟨ns, ens⟩ : ∃ ns, ns = ss.drop (m + 1) := ⟨_, rfl⟩
  rw [← eks] at lks ekk
  rw [← ens] at lns enn
  have hkn : ∀ k ∈ ks, isName k = true := fun k hk => hsn k (List.mem_of_mem_take (eks ▸ hk))
  have hnn : ∀ k ∈ ns, isName k = true := fun k hk => hsn k (List.mem_of_mem_drop (ens ▸ hk))
  have hkd : ks.Nodup := eks ▸ (List.take_sublist (m + 1) ss).nodup hsd
  have hnd : ns.Nodup := ens ▸ (List.drop_sublist (m + 1) ss).nodup hsd
  walk_at "go"
  refine ⟨p, _, rfl, hb2.ex e8, by omega, Nat.lt_of_lt_of_le (Bits.log (n := 10) (show ((mm : Nat) : Int).natAbs < 2 ^ 10 by omega)) (by decide), fun dm H9 dm0 dm1 b9 hb9 => ?_⟩
  obtain ⟨n, rfl⟩ := Int.eq_ofNat_of_zero_le dm0
  walk_at "go"
  refine ⟨_, rfl, by omega, by omega, ?_⟩
  refine for_it walk_range (fun i σ H9 => (∃ o6 o7 o8 o9, σ = [some (.ref p), some (.int (mk : Nat)), some (.int (mm : Nat)), some (.int ((m + 1 : Nat) : Int)), some (.ref nl), some (.ref Dr), o6, o7, o8, o9, none, none]) ∧ But p H H9 ∧ Box H9 p ∧ H9 nl = some (.lst (ss.map V.str)) ∧ H9 Dr = some (.lst (ras.map V.ref)) ∧ ∃ R, Rows H9 ras R ∧ R.length = m + 1 ∧ (∀ r ∈ R, ∀ k ∈ r, MkOk ks k) ∧ (rowNames R).Perm (ns.take i))
    ⟨⟨_, _, _, _, rfl⟩, bC.trans b9, hb9, b9 _ _ nnp (e8 _ _ hn2), b9 _ _ nDp hD8, List.replicate (m + 1) [], ⟨by rw [hrl, List.length_replicate], hrn, fun j a r ha hr' => ?_⟩, List.length_replicate, fun r hr' k hk' => ?_, ?_⟩ (fun _ _ _ _ _ => trivial) ?_ ?_
  · have z : r = [] := by
      have := List.mem_of_getElem? hr'
      exact (List.mem_replicate.1 this).2
    subst z
    exact ⟨[], b9 _ _ (nrp a (List.mem_of_getElem? ha)) (hrr a (List.mem_of_getElem? ha)).2.1, by simp only [List.map, Reps]⟩
  · rw [(List.mem_replicate.1 hr').2] at hk'
    cases hk'
  · have z : ∀ n, rowNames (List.replicate n []) = [] := fun n => by
      induction n with
      | zero => rfl
      | succ n ih => exact ih
    rw [z, List.take_zero]
  · rintro i x σ HA HA' hi ⟨⟨o6, o7, o8, o9, rfl⟩, bA, hbA, hnA, hDA, R, hR, hRl, hRm, hRp⟩ ⟨rfl, rfl⟩
    have hin : i < mm := by omega
    obtain ⟨nm, en⟩ : ∃ nm, ns[i]? = some nm := ⟨_, List.getElem?_eq_getElem (by omega)⟩
    have hnm := hnn nm (List.mem_of_getElem? en)
    walk_at "go"
    refine ⟨p, _, rfl, hbA, by omega, Nat.lt_of_lt_of_le (Bits.log (n := 10) (show (((m + 1 : Nat) : Int)).natAbs < 2 ^ 10 by omega)) (by decide), fun kd H11 kd0 kd1 b11 hb11 => ?_⟩
    obtain ⟨kq, rfl⟩ := Int.eq_ofNat_of_zero_le kd0
    walk_at "go"
    refine ⟨p, 3, rfl, hb11, by decide, by decide, fun cn H12 cn0 cn1 b12 hb12 => ?_⟩
    have b1x := b11.trans b12
    walk_at "go"
    refine ⟨fun σ' H' => ∃ cc : Int, 0 ≤ cc ∧ cc < 3 ∧ σ' = [some (.ref p), some (.int (mk : Nat)), some (.int (mm : Nat)), some (.int ((m + 1 : Nat) : Int)), some (.ref nl), some (.ref Dr), some (.int (0 + (i : Nat))), some (.int (kq : Nat)), some (.int cc), o9, none, none] ∧ But p HA' H' ∧ Box H' p, ?_, ?_⟩
    · have D12 := b1x _ _ nDp hDA
      have R12 : Rows H12 ras R := hR.keep (hbA.tk b1x) fun a ha us hu => b1x _ _ (nrp a ha) hu
      obtain ⟨ra, r, us, era, er, hus, hrs⟩ := R12.get (q := kq) (by omega)
      walk_at "go"
      refine g_ixL D12 (atI_nat (j := kq) (by rw [List.getElem?_map, era]; rfl)) ?_
      have here : ∃ c2 : Int, 0 ≤ c2 ∧ c2 < 3 ∧ [some (V.ref p), some (.int (mk : Nat)), some (.int (mm : Nat)), some (.int ((m + 1 : Nat) : Int)), some (.ref nl), some (.ref Dr), some (.int (0 + (i : Nat))), some (.int (kq : Nat)), some (.int cn), o9, none, none] = [some (.ref p), some (.int (mk : Nat)), some (.int (mm : Nat)), some (.int ((m + 1 : Nat) : Int)), some (.ref nl), some (.ref Dr), some (.int (0 + (i : Nat))), some (.int (kq : Nat)), some (.int c2), o9, none, none] := ⟨cn, cn0, cn1, rfl⟩
      walk_at "go"
      refine i_d (fun c1 => ?_) fun c1 => ?_
      · walk_at "go"
        refine ⟨p, 4, rfl, hb12, by decide, by decide, fun cx H13 cx0 cx1 b13 hb13 => ?_⟩
        walk_at "go"
        refine i_d (fun c2 => ?_) fun c2 => ?_
        · walk_at "go"
          exact ⟨0, by omega, by omega, rfl, b1x.trans b13, hb13⟩
        · walk_at "go"
          exact ⟨cn, cn0, cn1, rfl, b1x.trans b13, hb13⟩
      · walk_at "go"
        exact ⟨cn, cn0, cn1, rfl, b1x, hb12⟩
    rintro σ' H15 ⟨cc, cc0, cc1, rfl, b15, hb15⟩
    obtain ⟨cq, rfl⟩ := Int.eq_ofNat_of_zero_le cc0
    walk_at "go"
    refine ⟨_, rfl, by omega, by omega, fun D2 hD2 => ?_⟩
    rw [Int.toNat_natCast]
    refine lc_mapB walk_range p (fun _ _ v => ∃ s, v = V.str s ∧ s ∈ ks) (by omega) hD2 hb15 (fun _ _ _ _ _ r => r) (fun _ _ => trivial) ?_ ?_
    · rintro j x H13 H13' P N hj e13 hb13 ⟨rfl, rfl⟩ k
      walk_at "go"
      refine ⟨rfl, ?_⟩
      walk_at "go"
      refine ⟨p, _, rfl, hb13, by omega, Nat.lt_of_lt_of_le (Bits.log (n := 10) (show (((m + 1 : Nat) : Int)).natAbs < 2 ^ 10 by omega)) (by decide), fun j2 H14 j20 j21 b14 hb14 => ?_⟩
      walk_at "go"
      obtain ⟨jq, rfl⟩ := Int.eq_ofNat_of_zero_le j20
      obtain ⟨s, es⟩ : ∃ s, ks[jq]? = some s := ⟨_, List.getElem?_eq_getElem (by omega)⟩
      refine g_ixL (b14 _ _ nnp (e13 _ _ nnp (b15 _ _ nnp hnA))) (atI_nat (j := jq) (by rw [List.getElem?_map, ← ekk jq (by omega), es]; rfl)) ?_
      exact k _ _ b14 hb14 ⟨s, rfl, List.mem_of_getElem? es⟩
    intro H13 acc e13 hb13 hacc hla hr2
    obtain ⟨ps, rfl, hpl, hpp⟩ := acc_strs hla hr2
    have hpk : ∀ s ∈ ps, s ∈ ks := fun s hs => by
      obtain ⟨j, hj⟩ := List.mem_iff_getElem?.1 hs
      exact hpp j s hj
    walk_at "go"
    refine g_tupOf hacc fun t2 ht2 => ?_
    have b914 : But p HA' (upd H13 t2 (.tup (ps.map V.str))) := (b15.trans e13).trans ((Ex.new ht2).but p)
    have hb14 := hb13.at_upd (o := .tup (ps.map V.str)) (hb13.ne ht2)
    have h14 := @upd_same H13 t2 (.tup (ps.map V.str))
    revert b914 hb14 h14
    generalize upd H13 t2 (.tup (ps.map V.str)) = H14
    intro b914 hb14 h14
    have D15 := b914 _ _ nDp hDA
    have n15 := b914 _ _ nnp hnA
    have R15 : Rows H14 ras R := hR.keep (hbA.tk b914) fun a ha us hu => b914 _ _ (nrp a ha) hu
    obtain ⟨ra, r, us, era, er, hus, hrs⟩ := R15.get (q := kq) (by omega)
    have hram := List.mem_of_getElem? era
    walk_at "go"
    refine g_ixL D15 (atI_nat (j := kq) (by rw [List.getElem?_map, era]; rfl)) ?_
    refine g_tyL hus ?_
    walk_at "go"
    refine g_ixL n15 (i := ((m + 1 : Nat) : Int) + (0 + (i : Nat))) (v := .str nm) (by
      rw [show ((m + 1 : Nat) : Int) + (0 + (i : Nat)) = ((m + 1 + i : Nat) : Int) by omega]
      exact atI_nat (j := m + 1 + i) (by rw [List.getElem?_map, ← enn i, en]; rfl)) ?_
    walk_at "go"
    refine g_new fun t3 ht3 => ?_
    have e16 := Ex.new (o := .tup [.str nm, .ref t2]) ht3
    have h16 := @upd_same H14 t3 (.tup [.str nm, .ref t2])
    have hb16 := hb14.at_upd (o := .tup [.str nm, .ref t2]) (hb14.ne ht3)
    revert e16 h16 hb16
    generalize upd H14 t3 (.tup [.str nm, .ref t2]) = H16
    intro e16 h16 hb16
    have us16 := e16 _ _ hus
    have R16 : Rows H16 ras R := R15.keep e16.tk fun a ha us hu => e16 _ _ hu
    obtain ⟨us', hu', hrs16⟩ := R16.at_ kq ra r era er
    rw [us16] at hu'
    cases hu'
    have lus : us.length ≤ 12 := by
      have z1 := row_le er
      rw [hRp.length_eq, List.length_take] at z1
      have z2 := hrs16.len
      rw [List.length_map] at z2
      omega
    walk_at "go"
    refine g_app us16 (Nat.lt_of_le_of_lt lus (by decide)) ?_
    have rep : Rep H16 (mkD (nm, ps)) (.ref t3) := Rep.two h16 (Rep.s _) (by
      unfold partsD
      simp only [Rep]
      exact ⟨t2, _, rfl, e16 _ _ h14, strsReps ps⟩)
    have R17 := R16.put era er us16 hrs16 rep
    have mko : MkOk ks (nm, ps) := ⟨hnm, by show ps.length ≤ 2; omega, hpk⟩
    have b17 : But p H (upd H16 ra (.lst (us ++ [V.ref t3]))) := ((bA.trans b914).trans (e16.but p)).at_new (hr0 ra hram)
    walk_at "go"
    refine ⟨⟨_, _, _, _, rfl⟩, b17, hb16.at_upd (nrp ra hram), ?_, ?_, _, R17, by rw [List.length_set]; exact hRl, fun r' hr' k hk' => ?_, ?_⟩
    · rw [upd_ne (nrn ra hram)]
      exact e16 _ _ n15
    · rw [upd_ne (Ne.symm (hrr ra hram).2.2)]
      exact e16 _ _ D15
    · rcases List.mem_or_eq_of_mem_set hr' with hr' | rfl
      · exact hRm r' hr' k hk'
      · rcases List.mem_append.1 hk' with hk' | hk'
        · exact hRm r (List.mem_of_getElem? er) k hk'
        · rw [List.mem_singleton.1 hk']
          exact mko
    · refine (rowNames_put R kq r (nm, ps) er).trans ?_
      rw [List.take_add_one, en]
      exact List.Perm.append_right _ hRp
  · rintro σ H9 ⟨⟨o6, o7, o8, o9, rfl⟩, b9, hb9, hn9, hD9, R, hR, hRl, hRm, hRp⟩
    have tkn : ns.take (1 + (n : Int)).toNat <+: ns := List.take_prefix _ _
    have wok : WoodOk (ks.zip R) := wood_of ⟨by omega, by omega⟩ hkn hkd (by omega) hRm hRp (tkn.sublist.nodup hnd) (by rw [List.length_take]; omega)
    walk_at "go"
    refine ⟨_, rfl, by omega, by omega, fun D4 hD4 => ?_⟩
    rw [Int.toNat_natCast]
    refine lc_mapE walk_range (fun j H v => ∃ k r, ks[j]? = some k ∧ R[j]? = some r ∧ Rep H (kindD (k, r)) v) (by omega) hD4 (fun j H H' v t ⟨k, r, a1, a2, a3⟩ => ⟨k, r, a1, a2, a3.tk t (kind_hard _)⟩) (fun _ _ => trivial) ?_ ?_
    · rintro j x H10 H11 P N hj e10 ⟨rfl, rfl⟩ k
      obtain ⟨kn, ek⟩ : ∃ kn, ks[j]? = some kn := ⟨_, List.getElem?_eq_getElem (by omega)⟩
      obtain ⟨ra, er⟩ : ∃ ra, ras[j]? = some ra := ⟨_, List.getElem?_eq_getElem (by omega)⟩
      have jl : j < R.length := by omega
      obtain ⟨us, hus, hrs⟩ := hR.at_ j ra _ er (List.getElem?_eq_getElem jl)
      walk_at "go"
      refine ⟨rfl, ?_⟩
      walk_at "go"
      refine g_ixL (e10 _ _ hn9) (i := 0 + (j : Nat)) (v := .str kn) (by
        rw [Int.zero_add]
        exact atI_nat (j := j) (by rw [List.getElem?_map, ← ekk j (by omega), ek]; rfl)) ?_
      walk_at "go"
      refine g_ixL (e10 _ _ hD9) (i := 0 + (j : Nat)) (v := .ref ra) (by
        rw [Int.zero_add]
        exact atI_nat (j := j) (by rw [List.getElem?_map, er]; rfl)) ?_
      walk_at "go"
      refine g_tupOf (e10 _ _ hus) fun t2 ht2 => ?_
      walk_at "go"
      refine g_new fun t3 ht3 => ?_
      have e12 := (Ex.new (o := .tup us) ht2).trans (Ex.new (o := .tup [.str kn, .ref t2]) ht3)
      refine k _ _ e12 ⟨kn, R[j], ek, List.getElem?_eq_getElem jl, ?_⟩
      refine Rep.two upd_same (Rep.s _) ?_
      simp only [Rep]
      exact ⟨t2, us, rfl, Ex.new ht3 _ _ upd_same, hrs.tk ((e10.trans e12).tk) (mks_hard _)⟩
    · intro H10 acc e10 hacc hla hr2
      have rz := zip_reps ks R acc (by omega) (by rw [hla]; omega) hr2
      walk_at "go"
      refine g_tupOf hacc fun t5 ht5 => ?_
      have e11 := e10.trans (Ex.new (o := .tup acc) ht5)
      refine q _ _ _ wok ?_ (b9.trans (e11.but p)) (hb9.ex e11)
      unfold woodD
      simp only [Rep]
      exact ⟨t5, acc, rfl, upd_same, rz.ex (Ex.new ht5)⟩

theorem ok_law_rows_of_items (T : Txt K mg) : FnOk P w K mg base (L2.CX P w) 3 T.a_law_rows_of_items T.d_law_rows_of_items ["_law_box_here", "_law_letters_here", "_law_many", "_law_left"] spRowsOf := by
  refine T.F_law_rows_of_items.okX sc_law_rows_of_items (fun vs H Q E h => ?_) (fun cdv A outer s H vs Q E hr h => ?_)
  · obtain ⟨_, _, _, _, _, _, _, _, rfl, _⟩ := h
    rfl
  obtain ⟨p, l, ls, many, cs, ps, bs, bv, rfl, hb, l1, l9, m2, hl, rb, lb, nb, hbs, q⟩ := h
  refine ⟨_, (pss_cons (ps_setLc (i := 4) (own := [("_law_j", 7)]) (g := gName 7) rfl sc_law_rows_of_items.nd rfl rfl (sw_true rfl rfl rfl (by decide +kernel)) (pi_range1 rfl T.z_range (pa_cons (uv 2) pa_nil)) (blkOk_by (own := [("_law_j", 7)]) (N := N_law_rows_of_items) (sc := defScope s_law_rows_of_items) (by decide +kernel)) (fun _ _ _ _ _ => (pg_name (i := 7) sc_law_rows_of_items.nd rfl (by first | exact Or.inl rfl | exact Or.inr rfl))) (fun _ _ _ _ _ => pts_nil) (fun _ _ _ _ _ => (pe_lst pa_nil)))
      (pss_cons (ps_for (passes_of rfl) rfl (pi_range1 rfl T.z_range (pa_cons (pe_op uo_mul (pe_callD (ok_law_take T) (hr.mono (by decide)) rfl T.m_law_take T.F_law_take.kp T.b_law_take .nil (fun σ => passAt (takes_of rfl rfl rfl rfl) σ) (pa_cons (uv 0) (pa_cons pe_int pa_nil))) (pe_callTy uk_int rfl T.z_int boot_int (pa_cons (pe_cmpR uo_gt (uv 2) pe_int (nomark _)) pa_nil))) pa_nil)) (pg_name (i := 5) sc_law_rows_of_items.nd rfl (by first | exact Or.inl rfl | exact Or.inr rfl)) (pss_cons (ps_set (i := 6) sc_law_rows_of_items.nd rfl (by first | exact Or.inl rfl | exact Or.inr rfl) (pe_ix ux_seq (uv 4) (pe_callD (ok_law_take T) (hr.mono (by decide)) rfl T.m_law_take T.F_law_take.kp T.b_law_take .nil (fun σ => passAt (takes_of rfl rfl rfl rfl) σ) (pa_cons (uv 0) (pa_cons (uv 2) pa_nil))) (fun _ _ => rfl)))
      (pss_one (ps_if (PW.pt (pw_and (pt_cmpR uo_gt (pe_callB uk_len rfl T.z_len boot_len (pa_cons (uv 3) pa_nil)) pe_int (nomark _)) (pw_and1 (pt_cmpR op_eq (pe_callD (ok_law_take T) (hr.mono (by decide)) rfl T.m_law_take T.F_law_take.kp T.b_law_take .nil (fun σ => passAt (takes_of rfl rfl rfl rfl) σ) (pa_cons (uv 0) (pa_cons pe_int pa_nil))) pe_int (nomark _))))) (pss_one (ps_expr (pe_bm PySem.F.plainAttrs_list PySem.F.slot_list_append PySem.F.type_list_append mt_append (uv 6) (pa_cons (pe_bm PySem.F.plainAttrs_list PySem.F.slot_list_pop PySem.F.type_list_pop mt_popAt (uv 3) (pa_cons (pe_callD (ok_law_take T) (hr.mono (by decide)) rfl T.m_law_take T.F_law_take.kp T.b_law_take .nil (fun σ => passAt (takes_of rfl rfl rfl rfl) σ) (pa_cons (uv 0) (pa_cons (pe_callB uk_len rfl T.z_len boot_len (pa_cons (uv 3) pa_nil)) pa_nil))) pa_nil)) pa_nil)))) (pss_one (ps_expr (pe_bm PySem.F.plainAttrs_list PySem.F.slot_list_append PySem.F.type_list_append mt_append (uv 6) (pa_cons (pe_callD (ok_law_item_text T) (hr.mono (by decide)) rfl T.m_law_item_text T.F_law_item_text.kp T.b_law_item_text .nil (fun σ => passAt (takes_of rfl rfl rfl rfl) σ) (pa_cons (uv 0) (pa_cons (uv 1) pa_nil))) pa_nil))))))))
      (pss_one (ps_ret (pe_callTy uk_tup rfl T.z_tuple boot_tuple (pa_cons (pe_lc (own := [("_law_row", 6)]) (g := gName 6) rfl sc_law_rows_of_items.nd (ui_seq (uv 4)) (blkOk_by (own := [("_law_row", 6)]) (N := N_law_rows_of_items) (sc := defScope s_law_rows_of_items) (by decide +kernel)) (fun _ _ _ _ _ => (pg_name (i := 6) sc_law_rows_of_items.nd rfl (by first | exact Or.inl rfl | exact Or.inr rfl))) (fun _ _ _ _ _ => pts_nil) (fun _ _ _ _ _ => (pe_callTy (show CallR _ (.type "tuple") (uTup K) from uk_tup) rfl T.z_tuple boot_tuple (pa_cons (uv 6) pa_nil)))) pa_nil)))))), ?_⟩
  have nlp : l ≠ p := hb.neL hl fun x hx n z => by
    obtain ⟨j, hj⟩ := List.mem_iff_getElem?.1 hx
    obtain ⟨d, hd, rd⟩ := rb.get hj
    rw [List.getElem?_map] at hd
    cases e : bs[j]? with
    | none => rw [e] at hd; cases hd
    | some b =>
      rw [e] at hd
      cases hd
      obtain ⟨a, ea, _⟩ := bd_rep rd
      rw [ea] at z
      cases z
  walk_at "go"
  refine ⟨_, rfl, by omega, by omega, fun Dr hDr => ?_⟩
  rw [Int.toNat_natCast]
  refine lc_it walk_range (fun i H8 => Ex H H8 ∧ ∃ ras : List Addr, H8 Dr = some (.lst (ras.map V.ref)) ∧ ras.length = i ∧ ras.Nodup ∧ ∀ r ∈ ras, H r = none ∧ H8 r = some (.lst []) ∧ r ≠ Dr) ⟨Ex.new hDr, [], upd_same, rfl, List.nodup_nil, fun r z => (nomatch z)⟩ (fun _ _ _ _ => trivial) ?_ ?_
  · rintro i x H8 H8' hi ⟨e, ras, hD8, hrl, hrn, hrr⟩ ⟨rfl, rfl⟩
    walk_at "go"
    refine ⟨rfl, ?_⟩
    walk_at "go"
    refine g_new fun r hr8 => ?_
    have nrD : r ≠ Dr := fun z => by rw [z, hD8] at hr8; cases hr8
    refine ⟨_, Ex.new hr8 _ _ hD8, Nat.lt_of_le_of_lt (by rw [List.length_map]; omega : (ras.map V.ref).length ≤ 10) (by decide), (e.trans (Ex.new hr8)).at_new hDr, ras ++ [r], by rw [upd_same, List.map_append]; rfl, by rw [List.length_append, hrl]; rfl, ?_, fun x hx => ?_⟩
    · refine List.nodup_append.2 ⟨hrn, List.nodup_cons.2 ⟨fun z => (nomatch z), List.nodup_nil⟩, fun x hx y hy => ?_⟩
      rw [List.mem_singleton.1 hy]
      intro z
      have := (hrr x hx).2.1
      rw [z, hr8] at this
      cases this
    · rcases List.mem_append.1 hx with hx | hx
      · obtain ⟨a1, a2, a3⟩ := hrr x hx
        exact ⟨a1, by rw [upd_ne a3]; exact Ex.new hr8 _ _ a2, a3⟩
      · rw [List.mem_singleton.1 hx]
        exact ⟨e.free hr8, by rw [upd_ne nrD]; exact upd_same, nrD⟩
  rintro H8 ⟨e8, ras, hD8, hrl, hrn, hrr⟩
  have nDp : Dr ≠ p := hb.ne hDr
  have nDl : Dr ≠ l := fun z => by rw [z, hl] at hDr; cases hDr
  have nrp : ∀ r ∈ ras, r ≠ p := fun r hr' => hb.ne (hrr r hr').1
  have nrl : ∀ r ∈ ras, r ≠ l := fun r hr' z => by have := (hrr r hr').1; rw [z, hl] at this; cases this
  have nrD : ∀ r ∈ ras, Dr ≠ r := fun r hr' z => (hrr r hr').2.2 z.symm
  have hb8 := hb.ex e8
  walk_at "go"
  refine ⟨p, 7, rfl, hb8, by decide, by decide, fun d H9 d0 d1 b9 hb9 => ?_⟩
  have esm : ∃ sm : Nat, d * b2z (decide ((0 : Int) < ((many : Nat) : Int))) = (sm : Int) ∧ sm ≤ 6 ∧ (many = 0 → sm = 0) := by
    by_cases k : (0 : Int) < ((many : Nat) : Int)
    · rw [decide_eq_true k]
      exact ⟨d.toNat, by show d * 1 = _; omega, by omega, fun z => by omega⟩
    · rw [decide_eq_false k]
      exact ⟨0, by show d * 0 = _; omega, by decide, fun _ => rfl⟩
  obtain ⟨sm, esm, hsm, hsm0⟩ := esm
  have cmA : CMm d (b2z (decide ((0 : Int) < ((many : Nat) : Int)))) := (show Bits 10 d from by unfold Bits; omega).cm (b2z_bits _)
  walk_at "go"
  rw [esm]
  walk_at "go"
  refine ⟨_, rfl, by omega, by omega, ?_⟩
  rw [Int.toNat_natCast]
  have b89 : But2 p l H H9 := fun b o n1 n2 e => b9 _ _ n1 (e8 _ _ e)
  refine for_it walk_range (fun i σ H2 => (∃ o5 o6, σ = [some (.ref p), some (.str ls), some (.int (many : Nat)), some (.ref l), some (.ref Dr), o5, o6, none]) ∧ But2 p l H H2 ∧ Box H2 p ∧ H2 Dr = some (.lst (ras.map V.ref)) ∧ ∃ R bs2 bv2, RowsI H2 ras R ∧ R.length = many ∧ H2 l = some (.lst bv2) ∧ Reps H2 (bs2.map bdD) bv2 ∧ R.flatten.length ≤ i ∧ (∀ it ∈ R.flatten, ItOk ls cs ps it) ∧ (R.flatten.filterMap boxOf ++ bs2).Perm bs)
    ⟨⟨_, _, rfl⟩, b89, hb9, b9 _ _ nDp hD8, List.replicate many [], bs, bv, ⟨by rw [hrl, List.length_replicate], hrn, fun j a r ha hr' => ?_⟩, List.length_replicate, b9 _ _ nlp (e8 _ _ hl), (rb.ex e8).tkm (hb8.tk b9) bd_hard, ?_, fun it hit => ?_, ?_⟩ (fun _ _ _ _ _ => trivial) ?_ ?_
  · have z : r = [] := (List.mem_replicate.1 (List.mem_of_getElem? hr')).2
    subst z
    exact ⟨[], b9 _ _ (nrp a (List.mem_of_getElem? ha)) (hrr a (List.mem_of_getElem? ha)).2.1, by simp only [List.map, Reps]⟩
  · rw [List.flatten_replicate_nil]
    exact Nat.le_refl _
  · rw [List.flatten_replicate_nil] at hit
    cases hit
  · rw [List.flatten_replicate_nil]
    exact List.Perm.refl _
  · rintro i x σ H2a H2 hi ⟨⟨o5, o6, rfl⟩, b2, hb2, hD2, R, bs2, bv2, hR, hRl, hl2, rb2, lR, iR, pR⟩ ⟨rfl, rfl⟩
    have hmany : many ≠ 0 := fun z => by have := hsm0 z; omega
    walk_at "go"
    refine ⟨p, _, rfl, hb2, by omega, Nat.lt_of_lt_of_le (Bits.log (n := 10) (show ((many : Nat) : Int).natAbs < 2 ^ 10 by omega)) (by decide), fun kd H3 kd0 kd1 b3 hb3 => ?_⟩
    obtain ⟨kq, rfl⟩ := Int.eq_ofNat_of_zero_le kd0
    have D3 := b3 _ _ nDp hD2
    have l3 := b3 _ _ nlp hl2
    have t3 := hb2.tk b3
    have rb3 := rb2.tkm t3 bd_hard
    have R3 : RowsI H3 ras R := hR.keep t3 fun a ha us hu => b3 _ _ (nrp a ha) hu
    obtain ⟨ra, r, us, era, er, hus, hrs⟩ := R3.get (q := kq) (by omega)
    have hram := List.mem_of_getElem? era
    have lbv : bv2.length = bs2.length := by rw [rb2.len, List.length_map]
    have lbs : bs2.length ≤ 4 := by
      have := pR.length_eq
      rw [List.length_append] at this
      omega
    have lus : us.length ≤ 12 := by
      have z1 := row_leF er
      have z2 := hrs.len
      rw [List.length_map] at z2
      omega
    -- what a new item leaves
    have fin : ∀ (H6 : Hp) (it : Itm) (v : V) (bs3 : List (Int × Int)) (bv3 : List V) (o5 o6 : Option V), But2 p l H2 H6 → Tk H2 H6 → Box H6 p → H6 l = some (.lst bv3) → Reps H6 (bs3.map bdD) bv3 → Rep H6 (itD it) v → ItOk ls cs ps it → (R.flatten.filterMap boxOf ++ (match boxOf it with | none => [] | some b => [b]) ++ bs3).Perm bs →
        H6 ra = some (.lst us) ∧ ((∃ o5' o6', [some (.ref p), some (.str ls), some (.int (many : Nat)), some (.ref l), some (.ref Dr), o5, o6, none] = [some (.ref p), some (.str ls), some (.int (many : Nat)), some (.ref l), some (.ref Dr), o5', o6', none]) ∧ But2 p l H (upd H6 ra (.lst (us ++ [v]))) ∧ Box (upd H6 ra (.lst (us ++ [v]))) p ∧ (upd H6 ra (.lst (us ++ [v]))) Dr = some (.lst (ras.map V.ref)) ∧ ∃ R bs2 bv2, RowsI (upd H6 ra (.lst (us ++ [v]))) ras R ∧ R.length = many ∧ (upd H6 ra (.lst (us ++ [v]))) l = some (.lst bv2) ∧ Reps (upd H6 ra (.lst (us ++ [v]))) (bs2.map bdD) bv2 ∧ R.flatten.length ≤ i + 1 ∧ (∀ it ∈ R.flatten, ItOk ls cs ps it) ∧ (R.flatten.filterMap boxOf ++ bs2).Perm bs) := by
      intro H6 it v bs3 bv3 o5 o6 b6 t6 hb6 hl6 rb6 rv6 iok pm
      have R6 : RowsI H6 ras R := hR.keep t6 fun a ha us hu => b6 _ _ (nrp a ha) (nrl a ha) hu
      obtain ⟨us', hu', hrs'⟩ := R6.at_ kq ra r era er
      obtain ⟨us2, hu2, hrs2⟩ := hR.at_ kq ra r era er
      have e1 := b6 _ _ (nrp ra hram) (nrl ra hram) hu2
      have e2 := b3 _ _ (nrp ra hram) hu2
      rw [hus] at e2
      cases e2
      rw [hu'] at e1
      cases e1
      have R7 := R6.put era er hu' hrs' rv6
      have fp := flat_put R kq r it er
      refine ⟨hu', ⟨_, _, rfl⟩, fun b o n1 n2 e => ?_, hb6.at_upd (nrp ra hram), ?_, R.set kq (r ++ [it]), bs3, bv3, R7, by rw [List.length_set]; exact hRl, ?_, rb6.tkm (tk_put hu') bd_hard, ?_, fun x hx => ?_, ?_⟩
      · have nb : b ≠ ra := fun z => by
          have := (hrr ra hram).1
          rw [z, this] at e
          cases e
        rw [upd_ne nb]
        exact b6 _ _ n1 n2 (b2 _ _ n1 n2 e)
      · rw [upd_ne (nrD ra hram)]
        exact b6 _ _ nDp nDl hD2
      · rw [upd_ne (Ne.symm (nrl ra hram))]
        exact hl6
      · rw [fp.length_eq, List.length_append]
        exact Nat.succ_le_succ lR
      · rcases List.mem_append.1 (fp.mem_iff.1 hx) with hx | hx
        · exact iR x hx
        · rw [List.mem_singleton.1 hx]
          exact iok
      · have z := fp.filterMap boxOf
        rw [box_app] at z
        exact (List.Perm.append_right bs3 z).trans pm
    walk_at "go"
    refine g_ixL D3 (atI_nat (j := kq) (by rw [List.getElem?_map, era]; rfl)) ?_
    walk_at "go"
    have text : ∀ (H4 : Hp), But p H3 H4 → Box H4 p → ∀ (s : Str) (H5 : Hp), 1 ≤ s.length → s.length ≤ 8 → (∀ c ∈ s.cps.toList, c ∈ ls.cps.toList) → But p H4 H5 → Box H5 p →
        H5 ra = some (.lst us) ∧ ((∃ o5' o6', [some (V.ref p), some (.str ls), some (.int (many : Nat)), some (.ref l), some (.ref Dr), some (.int (0 + (i : Nat))), some (.ref ra), none] = [some (.ref p), some (.str ls), some (.int (many : Nat)), some (.ref l), some (.ref Dr), o5', o6', none]) ∧ But2 p l H (upd H5 ra (.lst (us ++ [.str s]))) ∧ Box (upd H5 ra (.lst (us ++ [.str s]))) p ∧ (upd H5 ra (.lst (us ++ [.str s]))) Dr = some (.lst (ras.map V.ref)) ∧ ∃ R bs2 bv2, RowsI (upd H5 ra (.lst (us ++ [.str s]))) ras R ∧ R.length = many ∧ (upd H5 ra (.lst (us ++ [.str s]))) l = some (.lst bv2) ∧ Reps (upd H5 ra (.lst (us ++ [.str s]))) (bs2.map bdD) bv2 ∧ R.flatten.length ≤ i + 1 ∧ (∀ it ∈ R.flatten, ItOk ls cs ps it) ∧ (R.flatten.filterMap boxOf ++ bs2).Perm bs) := by
      intro H4 b4 hb4 s H5 s1 s8 hs b5 hb5
      have b25 := b3.trans (b4.trans b5)
      have t25 := hb2.tk b25
      exact fin H5 (.inl s) (.str s) bs2 bv2 _ _ (fun b o n1 n2 e => b25 _ _ n1 e) t25 hb5 (b25 _ _ nlp hl2) (rb2.tkm t25 bd_hard) (Rep.s s) ⟨⟨s1, s8⟩, hs⟩ (by
        show (R.flatten.filterMap boxOf ++ [] ++ bs2).Perm bs
        rw [List.append_nil]
        exact pR)
    refine i_d (fun c1 => ?_) fun c1 => ?_
    · walk_at "go"
      refine ⟨p, 2, rfl, hb3, by decide, by decide, fun d4 H4 d40 d41 b4 hb4 => ?_⟩
      have l4 := b4 _ _ nlp l3
      have us4 := b4 _ _ (nrp ra hram) hus
      walk_at "go"
      refine i_eqI (fun c2 => ?_) fun c2 => ?_
      · walk_at "go"
        refine ⟨p, _, rfl, hb4, by omega, Nat.lt_of_lt_of_le (Bits.log (n := 10) (show ((bv2.length : Nat) : Int).natAbs < 2 ^ 10 by omega)) (by decide), fun d5 H5 d50 d51 b5 hb5 => ?_⟩
        obtain ⟨k, rfl⟩ := Int.eq_ofNat_of_zero_le d50
        have b25 := b3.trans (b4.trans b5)
        have t25 := hb2.tk b25
        have l5 := b25 _ _ nlp hl2
        have rb5 := rb2.tkm t25 bd_hard
        obtain ⟨v, hv⟩ : ∃ v, bv2[k]? = some v := ⟨_, List.getElem?_eq_getElem (by omega)⟩
        obtain ⟨dd, hd, rd⟩ := rb5.get hv
        rw [List.getElem?_map] at hd
        cases eb : bs2[k]? with
        | none => rw [eb] at hd; cases hd
        | some b =>
        rw [eb] at hd
        cases hd
        walk_at "go"
        refine g_popAt l5 (by omega) hv ?_
        have t6 := tk_put (ys := bv2.eraseIdx k) l5
        have re : Reps (upd H5 l (.lst (bv2.eraseIdx k))) ((bs2.eraseIdx k).map bdD) (bv2.eraseIdx k) := by
          rw [← map_erase]
          exact (rb5.tkm t6 bd_hard).erase
        have pe : (R.flatten.filterMap boxOf ++ [b] ++ bs2.eraseIdx k).Perm bs := by
          rw [List.append_assoc]
          exact (List.Perm.append_left _ (perm_erase bs2 k b eb).symm).trans pR
        have bin : BxIn cs ps b := hbs b (pR.mem_iff.1 (List.mem_append_right _ (List.mem_of_getElem? eb)))
        obtain ⟨us6, f6⟩ := fin (upd H5 l (.lst (bv2.eraseIdx k))) (.inr b) v (bs2.eraseIdx k) (bv2.eraseIdx k) (some (.int (0 + (i : Nat)))) (some (.ref ra)) (fun b o n1 n2 e => by rw [upd_ne n2]; exact b25 _ _ n1 e) (t25.trans t6) (hb5.at_upd nlp) upd_same re (rd.tk t6 (bd_hard b)) bin pe
        walk_at "go"
        refine g_app us6 (Nat.lt_of_le_of_lt lus (by decide)) ?_
        exact f6
      · walk_at "go"
        refine ⟨p, ls, rfl, hb4, l1, l9, fun s H5 s1 s8 hs b5 hb5 => ?_⟩
        obtain ⟨us6, f6⟩ := text H4 b4 hb4 s H5 s1 s8 hs b5 hb5
        walk_at "go"
        refine g_app us6 (Nat.lt_of_le_of_lt lus (by decide)) ?_
        exact f6
    · walk_at "go"
      refine ⟨p, ls, rfl, hb3, l1, l9, fun s H5 s1 s8 hs b5 hb5 => ?_⟩
      obtain ⟨us6, f6⟩ := text H3 (But.refl _ _) hb3 s H5 s1 s8 hs b5 hb5
      walk_at "go"
      refine g_app us6 (Nat.lt_of_le_of_lt lus (by decide)) ?_
      exact f6
  · rintro σ H2 ⟨⟨o5, o6, rfl⟩, b2, hb2, hD2, R, bs2, bv2, hR, hRl, hl2, rb2, lR, iR, pR⟩
    walk_at "go"
    refine g_seqLs ?_
    walk_at "go"
    refine ⟨_, rfl, ⟨_, sqL hD2⟩, fun D4 hD4 => ?_⟩
    refine lc_mapE walk_list (fun j H v => ∃ r, R[j]? = some r ∧ Rep H (rwD r) v) (by rw [List.length_map, hrl]; omega) hD4 (fun j H H' v t ⟨r, a1, a2⟩ => ⟨r, a1, a2.tk t (rw_hard _)⟩) (fun H8 e => sqL (e _ _ hD2)) ?_ ?_
    · rintro j x H10 H11 P N hj e10 ⟨rfl, hx⟩ k
      rw [List.getElem?_map] at hx
      cases era : ras[j]? with
      | none => rw [era] at hx; cases hx
      | some ra =>
      rw [era] at hx
      cases hx
      have jl : j < R.length := by have := (List.getElem?_eq_some_iff.1 era).1; omega
      obtain ⟨us, hus, hrs⟩ := hR.at_ j ra _ era (List.getElem?_eq_getElem jl)
      walk_at "go"
      refine ⟨rfl, ?_⟩
      walk_at "go"
      refine g_tupOf (e10 _ _ hus) fun t2 ht2 => ?_
      exact k _ _ (Ex.new ht2) ⟨R[j], List.getElem?_eq_getElem jl, Rep.tupO upd_same ((hrs.ex e10).ex (Ex.new ht2))⟩
    · intro H10 acc e10 hacc hla hr2
      rw [List.length_map] at hla
      have rz := reps_at (f := rwD) (as := R) (by omega) hr2
      walk_at "go"
      refine g_tupOf hacc fun t5 ht5 => ?_
      have e11 := e10.trans (Ex.new (o := .tup acc) ht5)
      refine q _ R _ ⟨by rw [hRl], by omega, iR, ?_⟩ (Rep.tupO upd_same (rz.ex (Ex.new ht5))) (fun b o n1 n2 e => e11 _ _ (b2 _ _ n1 n2 e)) (hb2.ex e11)
      exact (List.nodup_append.1 (pR.nodup_iff.2 nb)).1

theorem ok_law_some_tree (T : Txt K mg) : FnOk P w K mg base (L2.CX P w) 3 T.a_law_some_tree T.d_law_some_tree ["_law_box_here", "_law_wood_here"] spSomeTree2 := by
  refine T.F_law_some_tree.okX sc_law_some_tree (fun vs H Q E h => ?_) (fun cdv A outer s H vs Q E hr h => ?_)
  · obtain ⟨_, _, _, rfl, _⟩ := h
    rfl
  obtain ⟨p, wd, v, rfl, hb, rv, ok, q⟩ := h
  refine ⟨_, (pss_cons (ps_asg (pe_tup (pa_cons (pe_callD (ok_law_tree T) (hr.mono (by decide)) rfl T.m_law_tree T.F_law_tree.kp T.b_law_tree .nil (fun σ => passAt (takes_of rfl rfl rfl rfl) σ) (pa_cons (uv 0) (pa_cons (uv 1) (pa_cons (pe_ix ux_seq (pe_lst (pa_cons pe_int (pa_cons pe_int pa_nil))) (pe_op uo_fd (pe_callD (ok_law_take T) (hr.mono (by decide)) rfl T.m_law_take T.F_law_take.kp T.b_law_take .nil (fun σ => passAt (takes_of rfl rfl rfl rfl) σ) (pa_cons (uv 0) (pa_cons pe_int pa_nil))) pe_int) (fun _ _ => rfl)) pa_nil)))) (pa_cons (pe_ix ux_seq (pe_lst (pa_cons pe_int (pa_cons pe_int pa_nil))) (pe_callTy uk_int rfl T.z_int boot_int (pa_cons (pe_cmpR op_eq (pe_callD (ok_law_take T) (hr.mono (by decide)) rfl T.m_law_take T.F_law_take.kp T.b_law_take .nil (fun σ => passAt (takes_of rfl rfl rfl rfl) σ) (pa_cons (uv 0) (pa_cons pe_int pa_nil))) pe_int (nomark _)) pa_nil)) (fun _ _ => rfl)) pa_nil))) (pg_tup rfl (pgs_cons (pg_name (i := 2) sc_law_some_tree.nd rfl (by first | exact Or.inl rfl | exact Or.inr rfl)) (pgs_cons (pg_name (i := 3) sc_law_some_tree.nd rfl (by first | exact Or.inl rfl | exact Or.inr rfl)) pgs_nil))))
      (pss_cons (ps_while (passes_of rfl) (PW.pt (pw_and (pt_cmpR uo_gt (pe_callB uk_len rfl T.z_len boot_len (pa_cons (uv 2) pa_nil)) pe_int (nomark _)) (pw_and1 (pt_cmpR uo_gt (pe_callB (cr_max rfl) rfl T.z_max boot_max (pa_cons (pe_lc (own := [("_law_at", 4)]) (g := gName 4) rfl sc_law_some_tree.nd (pi_range1 rfl T.z_range (pa_cons (pe_callB uk_len rfl T.z_len boot_len (pa_cons (uv 2) pa_nil)) pa_nil)) (blkOk_by (own := [("_law_at", 4)]) (N := N_law_some_tree) (sc := defScope s_law_some_tree) (by decide +kernel)) (fun _ _ _ _ _ => (pg_name (i := 4) sc_law_some_tree.nd rfl (by first | exact Or.inl rfl | exact Or.inr rfl))) (fun _ _ _ _ _ => pts_nil) (fun _ _ _ _ _ => (pe_callD (ok_law_size T) (hr.mono (by decide)) rfl T.m_law_size T.F_law_size.kp T.b_law_size .nil (fun _ => passAt0) (pa_cons (pe_slice (show SlR _ (uSl K) from us_sl) (uv 2) po_none (po_some (pe_op (show OpR _ (binaryOp .Add) (uAdd K) from uo_add) (uv 4) pe_int))) pa_nil)))) pa_nil)) (uv 3) (nomark _))))) (pss_one (ps_set (i := 2) sc_law_some_tree.nd rfl (by first | exact Or.inl rfl | exact Or.inr rfl) (pe_slice us_sl (uv 2) po_none (po_some (pe_un uu_neg pe_int))))))
      (pss_one (ps_ret (uv 2))))), ?_⟩
  obtain ⟨wa, wx, rfl, hwa, _⟩ := id rv.tupI
  walk_at "go"
  refine g_new fun l1 hl1 => ?_
  have e1 := Ex.new (o := .lst [.int 14, .int 60]) hl1
  have n1 := hb.ne hl1
  have a1 := @upd_same H l1 (.lst [.int 14, .int 60])
  revert e1 a1
  generalize upd H l1 (.lst [.int 14, .int 60]) = H1
  intro e1 a1
  have hb1 := hb.ex e1
  walk_at "go"
  refine ⟨p, 8, rfl, hb1, by decide, by decide, fun d H2 d0 d1 b2 hb2 => ?_⟩
  walk_at "go"
  have b02 := (e1.but p).trans b2
  obtain ⟨mo, em, m1, m2⟩ : ∃ mo : Nat, atI [V.int 14, .int 60] (d.fdiv 7) = some (.int (mo : Nat)) ∧ 1 ≤ mo ∧ mo ≤ 60 := by
    have z : d.fdiv 7 = 0 ∨ d.fdiv 7 = 1 := by
      rw [Int.fdiv_eq_ediv_of_nonneg d (by decide)]
      omega
    rcases z with z | z <;> rw [z]
    · exact ⟨14, rfl, by decide, by decide⟩
    · exact ⟨60, rfl, by decide, by decide⟩
  refine g_ixL (b2 _ _ n1 a1) em ?_
  have nwa : wa ≠ p := hb.tkne (Ex.refl _) hwa
  refine ⟨p, wd, _, mo, rfl, hb2, rv.tk (hb.tk b02) (wood_hard wd), ok, m1, by omega, fun t u H3 lt hg hrow rt b3 hb3 => ?_⟩
  have b03 := b02.trans b3
  walk_at "go"
  refine g_new fun l2 hl2 => ?_
  have e4 := Ex.new (o := .lst [.int 200, .int 2000]) hl2
  have n2 := hb3.ne hl2
  have a4 := @upd_same H3 l2 (.lst [.int 200, .int 2000])
  revert e4 a4
  generalize upd H3 l2 (.lst [.int 200, .int 2000]) = H4
  intro e4 a4
  have hb4 := hb3.ex e4
  walk_at "go"
  refine ⟨p, 6, rfl, hb4, by decide, by decide, fun d2 H5 d20 d21 b5 hb5 => ?_⟩
  walk_at "go"
  obtain ⟨ms, ems, ms2⟩ : ∃ ms : Int, atI [V.int 200, .int 2000] (b2z (decide (V.int d2 = V.int 0))) = some (.int ms) ∧ ms ≤ 2000 := by
    cases decide (V.int d2 = V.int 0)
    · exact ⟨200, rfl, by decide⟩
    · exact ⟨2000, rfl, by decide⟩
  refine g_ixL (b5 _ _ n2 a4) ems ?_
  walk_at "go"
  refine g_new fun pt hpt => ?_
  have e6 := Ex.new (o := .tup [u, .int ms]) hpt
  refine g_tup2 upd_same ?_
  have b06 := b03.trans ((e4.but p).trans (b5.trans (e6.but p)))
  have hb6 := hb5.ex e6
  have rt6 : Rep (upd H5 pt (.tup [u, .int ms])) (treeD t) u := ((rt.ex e4).tk (hb4.tk b5) (tree_hard t)).ex e6
  revert b06 hb6 rt6
  generalize upd H5 pt (.tup [u, .int ms]) = H6
  intro b06 hb6 rt6
  walk_at "go"
  refine g_while (fun m σ H7 => ∃ t u, σ = [some (.ref p), some (.ref wa), some u, some (.int ms), none] ∧ m = t.length ∧ t.length ≤ 60 ∧ goTr wd [] t = true ∧ (∀ r ∈ t, TextOk r.1 ∧ r.2.length ≤ 2) ∧ Rep H7 (treeD t) u ∧ But p H H7 ∧ Box H7 p) _ ⟨t, u, rfl, rfl, by omega, hg, hrow, rt6, b06, hb6⟩ ?_
  rintro m σ H7 ⟨t, u, rfl, rfl, lt, hg, hrow, rt, b7, hb7⟩
  obtain ⟨ta, ts, rfl, hta, rts⟩ := id (Rep.tupI (show Rep H7 (.tup (t.map rowD)) u from rt))
  have lts : ts.length = t.length := by rw [rts.len, List.length_map]
  have tw := goTr_w ok hg
  walk_at "go"
  refine i_d (fun c => ?_) fun c => ?_
  · walk_at "go"
    refine ⟨_, rfl, by omega, by omega, fun D hD => ?_⟩
    rw [Int.toNat_natCast]
    refine lc_mapE walk_range (fun j H8 v => ∃ n, (List.range t.length)[j]? = some n ∧ v = V.int (szT t n)) (by omega) hD (fun _ _ _ _ _ z => z) (fun _ _ => trivial) ?_ ?_
    · rintro j x H8 H9 P N hj e8 ⟨rfl, rfl⟩ k
      walk_at "go"
      refine ⟨rfl, ?_⟩
      walk_at "go"
      refine g_slT (e8 _ _ hta) fun sp H10 e10 hsp => ?_
      rw [cutV_take (by omega) (by omega)] at hsp
      have ek : (0 + ((j : Nat) : Int) + 1).toNat = j + 1 := by omega
      rw [ek] at hsp
      have lk : (t.take (j + 1)).length = j + 1 := by rw [List.length_take]; omega
      walk_at "go"
      refine ⟨t.take (j + 1), _, rfl, tree_take hsp (rts.ex (e8.trans e10)), by omega, by omega, tw.idx.take _, fun H11 e11 => ?_⟩
      rw [lk, Nat.add_sub_cancel, szT_take tw.idx (by omega) (Nat.lt_succ_self j)]
      exact k _ _ (e10.trans e11) ⟨j, List.getElem?_range (by omega), rfl⟩
    intro H8 acc e8 hacc hla hr2
    have ea := acc_mapN (xs := List.range t.length) (f := fun n => szT t n) (by rw [List.length_range]; omega) hr2
    subst ea
    walk_at "go"
    refine ⟨_, _, rfl, sqL hacc, by rw [List.length_map, List.length_range]; omega, fun mx hm hmx => ?_⟩
    walk_at "go"
    refine i_d (fun c2 => g_wn ?_) fun c2 => ?_
    · walk_at "go"
      refine g_slT (e8 _ _ hta) fun sp H10 e10 hsp => ?_
      rw [cutV_init] at hsp
      rw [lts] at hsp
      walk_at "go"
      refine ⟨_, ?_, t.take (t.length - 1), _, rfl, rfl, by rw [List.length_take]; omega, goTr_take _ hg, fun r hr => hrow r (List.mem_of_mem_take hr), tree_take hsp (rts.ex (e8.trans e10)), b7.trans ((e8.trans e10).but p), hb7.ex (e8.trans e10)⟩
      rw [List.length_take]
      omega
    · walk_at "go"
      refine q t _ _ lt hg hrow (fun k hk => ?_) (rt.ex e8) (b7.trans (e8.but p)) (hb7.ex e8)
      have := hmx (szT t k) (List.mem_map.2 ⟨k, List.mem_range.2 hk, rfl⟩)
      omega
  · have t0 : t.length = 0 := by omega
    walk_at "go"
    exact q t _ _ lt hg hrow (fun k hk => by omega) rt b7 hb7

theorem ok_law_printer (T : Txt K mg) : FnOk P w K mg base (L2.CX P w) 4 T.a_law_printer T.d_law_printer ["_law_box_here", "_law_wood_here", "_law_letters_here", "_law_counts"] spPrinter := by
  refine T.F_law_printer.okX sc_law_printer (fun vs H Q E h => ?_) (fun cdv A outer s H vs Q E hr h => ?_)
  · obtain ⟨_, _, _, _, _, _, rfl, _⟩ := h
    rfl
  obtain ⟨p, c, wd, v, ls, cs, rfl, hb, rv, ok, lok, hc, lcs, hcs, q⟩ := h
  refine ⟨_, (pss_cons (ps_set (i := 4) sc_law_printer.nd rfl (by first | exact Or.inl rfl | exact Or.inr rfl) (pe_lst pa_nil))
      (pss_cons (ps_for (passes_of rfl) rfl (ui_seq (pe_callD (ok_law_makers T) (hr.mono (by decide)) rfl T.m_law_makers T.F_law_makers.kp T.b_law_makers .nil (fun σ => passAt (takes_of rfl rfl rfl rfl) σ) (pa_cons (uv 1) pa_nil))) (pg_tup rfl (pgs_cons (pg_name (i := 5) sc_law_printer.nd rfl (by first | exact Or.inl rfl | exact Or.inr rfl)) (pgs_cons (pg_name (i := 6) sc_law_printer.nd rfl (by first | exact Or.inl rfl | exact Or.inr rfl)) (pgs_cons (pg_name (i := 7) sc_law_printer.nd rfl (by first | exact Or.inl rfl | exact Or.inr rfl)) pgs_nil)))) (pss_one (ps_expr (pe_bm PySem.F.plainAttrs_list PySem.F.slot_list_append PySem.F.type_list_append mt_append (uv 4) (pa_cons (pe_callD (ok_law_rows_of_items T) (hr.mono (by decide)) rfl T.m_law_rows_of_items T.F_law_rows_of_items.kp T.b_law_rows_of_items .nil (fun σ => passAt (takes_of rfl rfl rfl rfl) σ) (pa_cons (uv 0) (pa_cons (uv 2) (pa_cons (pe_ix ux_seq (uv 3) (uv 6) (fun _ _ => rfl)) (pa_cons (pe_callD (ok_law_boxes_left T) (hr.mono (by decide)) rfl T.m_law_boxes_left T.F_law_boxes_left.kp T.b_law_boxes_left .nil (fun σ => passAt (takes_of rfl rfl rfl rfl) σ) (pa_cons (uv 7) (pa_cons (uv 3) pa_nil))) pa_nil))))) pa_nil)))))
      (pss_one (ps_ret (pe_tup (pa_cons (uv 2) (pa_cons (uv 3) (pa_cons (pe_callTy uk_tup rfl T.z_tuple boot_tuple (pa_cons (uv 4) pa_nil)) pa_nil)))))))), ?_⟩
  obtain ⟨wa, wx, rfl, hwa, rs⟩ := id rv.tupI
  have pk := ok.kinds
  have tabl := ok.many
  have l1 := lok.pos
  have l9 := lok.most
  walk_at "go"
  refine g_new fun RL hRL => ?_
  have nR := hb.ne hRL
  have e1 := Ex.new (o := .lst []) hRL
  have hb1 := hb.ex e1
  have hR1 := @upd_same H RL (.lst [])
  revert e1 hb1 hR1
  generalize upd H RL (.lst []) = H1
  intro e1 hb1 hR1
  walk_at "go"
  refine g_seqLs ?_
  walk_at "go"
  refine ⟨wd, _, rfl, rv.ex e1, ok, fun ml H4 us e4 hml hDu => ?_⟩
  have lus := hDu.1
  have hb4 := hb1.ex e4
  have hc4 := e4 _ _ (e1 _ _ hc)
  have hR4 := e4 _ _ hR1
  have nml : ml ≠ p := hb4.neL hml fun x hx n z => by
    obtain ⟨j, hj⟩ := List.mem_iff_getElem?.1 hx
    obtain ⟨_, _, _, _, h, _⟩ := hDu.2 j x hj
    rw [h] at z
    cases z
  walk_at "go"
  refine ⟨_, rfl, ⟨_, sqL hml⟩, ?_⟩
  refine for_it walk_list (fun i σ Hc => (∃ o5 o6 o7, σ = [some (.ref p), some (.ref wa), some (.str ls), some (.ref c), some (.ref RL), o5, o6, o7]) ∧ But p H Hc ∧ Box Hc p ∧ Tk H4 Hc ∧ Hc ml = some (.lst us) ∧ ∃ (rs : List V) (rls : List (List (List Itm))), Hc RL = some (.lst rs) ∧ Reps Hc (rls.map rpD) rs ∧ rls.length = i ∧ ∀ (j : Nat) (e : Nat × Mk) (x : List (List Itm)), (tabFrom 0 wd)[j]? = some e → rls[j]? = some x → RpOk ls cs (dueOf wd e) (cntAt cs e.1) x) ⟨⟨_, _, _, rfl⟩, (e1.trans e4).but p, hb4, Tk.refl _, hml, [], [], hR4, by simp only [List.map, Reps], rfl, fun j e x _ z => by simp at z⟩ (fun i σ Hc _ h => sqL h.2.2.2.2.1) ?_ ?_
  · rintro i x σ Hca Hc hi ⟨⟨o5, o6, o7, rfl⟩, bc, hbc, tc, hmlc, rs, rls, hRc, rrs, lrl, hrls⟩ ⟨rfl, hx⟩
    obtain ⟨e, et, p1, t1, rfl, hp1, ht1⟩ := hDu.2 i x hx
    rw [dueOf_vals] at ht1
    have hem := List.mem_of_getElem? et
    obtain ⟨ek, dl, d2, din⟩ := dueOf_in ok hem
    have hcc := tc _ _ hc4
    have ecn := cnt_at (cs := cs) (n := (e.1 : Nat)) (by omega) (by omega)
    have hcn : 0 ≤ cntAt cs (e.1 : Nat) ∧ cntAt cs (e.1 : Nat) ≤ 2 := by
      unfold cntAt
      rw [List.getD_eq_getElem?_getD, List.getElem?_eq_getElem (by omega)]
      exact hcs _ (List.getElem_mem _)
    obtain ⟨n, en⟩ := Int.eq_ofNat_of_zero_le hcn.1
    rw [en] at ecn hcn
    refine g_tup3 (tc _ _ hp1) ?_
    walk_at "go"
    refine g_ixT hcc ecn ?_
    walk_at "go"
    refine ⟨t1, c, dueOf wd e, cs, rfl, tc _ _ ht1, hcc, by omega, fun x hx => by have := din x hx; omega, hcs, fun l bv bs H5 hl0 e5 hl5 rb lb nb hbs => ?_⟩
    have hb5 := hbc.ex e5
    walk_at "go"
    refine ⟨p, l, ls, n, cs, dueOf wd e, bs, bv, rfl, hb5, l1, by omega, by omega, hl5, rb, lb, nb, hbs, fun xv xr H6 xok rx b6 hb6 => ?_⟩
    have b56 : But p Hc H6 := fun b o n1 e => b6 b o n1 (fun z => by rw [z, hl0] at e; cases e) (e5 _ _ e)
    have nml2 : ml ≠ l := fun z => by rw [z, hl0] at hmlc; cases hmlc
    have hR6 := b56 _ _ nR hRc
    have lrs : rs.length = rls.length := by rw [rrs.len, List.length_map]
    have li := (List.getElem?_eq_some_iff.1 et).1
    walk_at "go"
    refine g_app hR6 (Nat.lt_of_le_of_lt (by omega : rs.length ≤ 1000) (by decide)) ?_
    have t6 := hbc.tk b56
    have tu := tk_put (ys := rs ++ [xv]) hR6
    have nmR : ml ≠ RL := fun z => by
      rw [z, hR4] at hml
      cases hml
      simp at hx
    walk_at "go"
    refine ⟨⟨_, _, _, rfl⟩, (bc.trans b56).at_new hRL, hb6.at_upd nR, tc.trans (t6.trans tu), by rw [upd_ne nmR]; exact b56 _ _ nml hmlc, rs ++ [xv], rls ++ [xr], upd_same, reps_snoc (rrs.tkm (t6.trans tu) rp_hard) (rx.tk tu (rp_hard _)), by rw [List.length_append, lrl]; rfl, fun j f y hf hy => ?_⟩
    by_cases cj : j < rls.length
    · rw [List.getElem?_append_left cj] at hy
      exact hrls j f y hf hy
    · rw [List.getElem?_append_right (by omega)] at hy
      have ej : j = i := by
        have := (List.getElem?_eq_some_iff.1 hy).1
        rw [List.length_singleton] at this
        omega
      subst ej
      rw [lrl, Nat.sub_self] at hy
      cases hy
      rw [et] at hf
      cases hf
      rw [en]
      exact xok
  · rintro σ Hc ⟨⟨o5, o6, o7, rfl⟩, bc, hbc, tc, hmlc, rs, rls, hRc, rrs, lrl, hrls⟩
    walk_at "go"
    refine g_tupOf hRc fun t5 ht5 => ?_
    have e5 := Ex.new (o := .tup rs) ht5
    have h5 := @upd_same Hc t5 (.tup rs)
    revert e5 h5
    generalize upd Hc t5 (.tup rs) = H5
    intro e5 h5
    walk_at "go"
    refine g_new fun t6 ht6 => ?_
    have e6 := Ex.new (o := .tup [.str ls, .ref c, .ref t5]) ht6
    have e56 := e5.trans e6
    refine q (ls, cs, rls) _ _ ⟨lok, lcs, hcs, by show rls.length = _; omega, hrls⟩ ?_ (bc.trans (e56.but p)) (hbc.ex e56)
    refine Rep.tupO upd_same ⟨_, _, rfl, Rep.s _, _, _, rfl, Rep.ints (e56 _ _ (tc _ _ hc4)), _, _, rfl, Rep.tupO (e6 _ _ h5) (rrs.ex e56), by simp only [Reps]⟩

theorem ok_law (T : Txt K mg) : FnOk P w K mg base (L2.CX P w) 5 T.a_law T.d_law ["_law_script"] (spLaw K) := by
  refine T.F_law.okX sc_law (fun vs H Q E h => ?_) (fun cdv A outer s H vs Q E hr h => ?_)
  · obtain ⟨_, _, rfl, _⟩ := h
    rfl
  obtain ⟨scr, ns, rfl, hS, hl, q⟩ := h
  refine ⟨_, (pss_cons (ps_for (passes_of rfl) rfl (pi_range1 rfl T.z_range (pa_cons (pe_callB (uk_max2 rfl) rfl T.z_max boot_max (pa_cons pe_int (pa_cons (pe_callB (uk_min2 rfl) rfl T.z_min boot_min (pa_cons pe_int (pa_cons (pe_callB uk_len rfl T.z_len boot_len (pa_cons (uv 0) pa_nil)) pa_nil))) pa_nil))) pa_nil)) (pg_name (i := 1) sc_law.nd rfl (by first | exact Or.inl rfl | exact Or.inr rfl)) (pss_cons (ps_set (i := 2) sc_law.nd rfl (by first | exact Or.inl rfl | exact Or.inr rfl) (pe_callD (ok_law_box T) (hr.mono (by decide)) rfl T.m_law_box T.F_law_box.kp T.b_law_box .nil (fun σ => passAt (takes_of rfl rfl rfl rfl) σ) (pa_cons (uv 0) (pa_cons (uv 1) pa_nil))))
      (pss_cons (ps_set (i := 3) sc_law.nd rfl (by first | exact Or.inl rfl | exact Or.inr rfl) (pe_callTy uk_int rfl T.z_int boot_int (pa_cons (pe_cmpR op_eq (pe_callD (ok_law_take T) (hr.mono (by decide)) rfl T.m_law_take T.F_law_take.kp T.b_law_take .nil (fun σ => passAt (takes_of rfl rfl rfl rfl) σ) (pa_cons (uv 2) (pa_cons pe_int pa_nil))) pe_int (nomark _)) pa_nil)))
      (pss_cons (ps_set (i := 4) sc_law.nd rfl (by first | exact Or.inl rfl | exact Or.inr rfl) (pe_callD (ok_law_wood T) (hr.mono (by decide)) rfl T.m_law_wood T.F_law_wood.kp T.b_law_wood .nil (fun σ => passAt (takes_of rfl rfl rfl rfl) σ) (pa_cons (uv 2) (pa_cons (pe_op uo_add pe_int (uv 3)) (pa_cons (pe_op uo_add pe_int (pe_op uo_mul pe_int (uv 3))) pa_nil)))))
      (pss_cons (ps_set (i := 5) sc_law.nd rfl (by first | exact Or.inl rfl | exact Or.inr rfl) (pe_callD (ok_law_some_tree T) (hr.mono (by decide)) rfl T.m_law_some_tree T.F_law_some_tree.kp T.b_law_some_tree .nil (fun σ => passAt (takes_of rfl rfl rfl rfl) σ) (pa_cons (uv 2) (pa_cons (uv 4) pa_nil))))
      (pss_cons (ps_set (i := 6) sc_law.nd rfl (by first | exact Or.inl rfl | exact Or.inr rfl) (pe_lst pa_nil))
      (pss_cons (ps_for (passes_of rfl) rfl (pi_range1 rfl T.z_range (pa_cons pe_int pa_nil)) (pg_name (i := 7) sc_law.nd rfl (by first | exact Or.inl rfl | exact Or.inr rfl)) (pss_cons (ps_set (i := 8) sc_law.nd rfl (by first | exact Or.inl rfl | exact Or.inr rfl) (pe_callD (ok_law_letters T) (hr.mono (by decide)) rfl T.m_law_letters T.F_law_letters.kp T.b_law_letters .nil (fun σ => passAt (takes_of rfl rfl rfl rfl) σ) (pa_cons (uv 2) (pa_cons (pe_op uo_add pe_int (pe_callD (ok_law_take T) (hr.mono (by decide)) rfl T.m_law_take T.F_law_take.kp T.b_law_take .nil (fun σ => passAt (takes_of rfl rfl rfl rfl) σ) (pa_cons (uv 2) (pa_cons pe_int pa_nil)))) pa_nil))))
      (pss_one (ps_expr (pe_bm PySem.F.plainAttrs_list PySem.F.slot_list_append PySem.F.type_list_append mt_append (uv 6) (pa_cons (pe_callD (ok_law_printer T) (hr.mono (by decide)) rfl T.m_law_printer T.F_law_printer.kp T.b_law_printer .nil (fun σ => passAt (takes_of rfl rfl rfl rfl) σ) (pa_cons (uv 2) (pa_cons (uv 4) (pa_cons (uv 8) (pa_cons (pe_callD (ok_law_text_counts T) (hr.mono (by decide)) rfl T.m_law_text_counts T.F_law_text_counts.kp T.b_law_text_counts .nil (fun σ => passAt (takes_of rfl rfl rfl rfl) σ) (pa_cons (uv 2) (pa_cons (uv 4) (pa_cons pe_int pa_nil)))) pa_nil))))) pa_nil))))))
      (pss_one (ps_for (passes_of rfl) rfl (ui_seq (pe_op uo_add (uv 6) (pe_slice us_sl (uv 6) po_none (po_some pe_int)))) (pg_name (i := 9) sc_law.nd rfl (by first | exact Or.inl rfl | exact Or.inr rfl)) (pss_one (ps_if (pt_cmpR uo_gt (pe_callB uk_len rfl T.z_len boot_len (pa_cons (uv 5) pa_nil)) pe_int (nomark _)) (pss_cons (ps_set (i := 10) sc_law.nd rfl (by first | exact Or.inl rfl | exact Or.inr rfl) (pe_ix ux_seq (pe_callD (ok_law_prints T) (hr.mono (by decide)) rfl T.m_law_prints T.F_law_prints.kp T.b_law_prints .nil (fun σ => passAt (takes_of rfl rfl rfl rfl) σ) (pa_cons (uv 4) (pa_cons (uv 9) (pa_cons (uv 5) pa_nil)))) (pe_un uu_neg pe_int) (fun _ _ => rfl)))
      (pss_cons (ps_if (pt_not (ut (pe_callD (ok_law_alike T) (hr.mono (by decide)) rfl T.m_law_alike T.F_law_alike.kp T.b_law_alike .nil (fun σ => passAt (takes_of rfl rfl rfl rfl) σ) (pa_cons (pe_callD (ok_printed_at T) (hr.mono (by decide)) rfl T.m_printed_at T.F_printed_at.kp T.b_printed_at .nil (fun σ => passAt (takes_of rfl rfl rfl rfl) σ) (pa_cons (uv 4) (pa_cons (uv 9) (pa_cons (uv 5) pa_nil)))) (pa_cons (uv 10) pa_nil))))) (pss_one (ps_ret pe_bl)) pss_nil)
      (pss_one (ps_if (pt_cmpR (op_neD hr.units) (pe_callD (ok_printed_at T) (hr.mono (by decide)) rfl T.m_printed_at T.F_printed_at.kp T.b_printed_at .nil (fun σ => passAt (takes_of rfl rfl rfl rfl) σ) (pa_cons (uv 4) (pa_cons (uv 9) (pa_cons (pe_callD (ok_law_plain T) (hr.mono (by decide)) rfl T.m_law_plain T.F_law_plain.kp T.b_law_plain .nil (fun σ => passAt (takes_of rfl rfl rfl rfl) σ) (pa_cons (uv 5) pa_nil)) pa_nil)))) (uv 10) (nomark _)) (pss_one (ps_ret pe_bl)) pss_nil)))) pss_nil)))))))))))
      (pss_one (ps_ret pe_bl))), ?_⟩
  walk_at "go"
  have hln : (ns.map V.int).length ≤ 63 := by rw [List.length_map]; exact hl
  have hn : ∃ n : Nat, max 2 (min 6 (((ns.map V.int).length : Nat) : Int)) = (n : Int) ∧ 2 ≤ n ∧ n ≤ 6 := ⟨(max 2 (min 6 (((ns.map V.int).length : Nat) : Int))).toNat, by omega, by omega, by omega⟩
  obtain ⟨n, en, n2, n6⟩ := hn
  rw [en]
  refine ⟨_, rfl, by omega, by omega, ?_⟩
  rw [Int.toNat_natCast]
  refine for_it walk_range (fun i σ H1 => (∃ o1 o2 o3 o4 o5 o6 o7 o8 o9 oA, σ = [some (.ref scr), o1, o2, o3, o4, o5, o6, o7, o8, o9, oA]) ∧ Ex H H1) ⟨⟨_, _, _, _, _, _, _, _, _, _, rfl⟩, Ex.refl _⟩ (fun _ _ _ _ _ => trivial) ?_ ?_
  · rintro i x σ H1a H1 hi ⟨⟨o1, o2, o3, o4, o5, o6, o7, o8, o9, oA, rfl⟩, e1⟩ ⟨rfl, rfl⟩
    walk_at "go"
    refine ⟨scr, ns, i, by show [V.ref scr, V.int (0 + (i : Int))] ++ [] = _; rw [Int.zero_add]; rfl, e1.seqL hS, hl, fun p H2 hp e2 hb2 => ?_⟩
    walk_at "go"
    refine ⟨p, 8, rfl, hb2, by decide, by decide, fun dw H3 dw0 dw1 b3 hb3 => ?_⟩
    walk_at "go"
    obtain ⟨wide, ew, w1⟩ : ∃ wide : Nat, b2z (decide (V.int dw = V.int 0)) = (wide : Nat) ∧ wide ≤ 1 := by
      cases decide (V.int dw = V.int 0)
      · exact ⟨0, rfl, by decide⟩
      · exact ⟨1, rfl, by decide⟩
    rw [ew]
    refine ⟨p, 3 + wide, 8 + 4 * wide, by show [V.ref p, V.int (3 + ((wide : Nat) : Int)), V.int (8 + 4 * ((wide : Nat) : Int))] ++ [] = _; simp, hb3, by omega, by omega, fun wd v H4 ok rv b4 hb4 => ?_⟩
    walk_at "go"
    refine ⟨p, wd, v, rfl, hb4, rv, ok, fun t u H5 lt hg hrow hsz rt b5 hb5 => ?_⟩
    have tw := goTr_w ok hg
    have rv5 := rv.tk (hb4.tk b5) (wood_hard wd)
    walk_at "go"
    refine g_new fun PS hPS => ?_
    have nPS := hb5.ne hPS
    have e6 := Ex.new (o := .lst []) hPS
    have hPS6 := @upd_same H5 PS (.lst [])
    have rv6 := rv5.ex e6
    have rt6 := rt.ex e6
    have hb6 := hb5.ex e6
    have b06 : But p H1 (upd H5 PS (.lst [])) := (e2.but p).trans (b3.trans (b4.trans (b5.trans (e6.but p))))
    revert e6 hPS6 rv6 rt6 hb6 b06
    generalize upd H5 PS (.lst []) = H6
    intro e6 hPS6 rv6 rt6 hb6 b06
    walk_at "go"
    refine ⟨_, rfl, by decide, by decide, ?_⟩
    refine for_it (n := 2) walk_range (fun j σ H7 => (∃ o7 o8, σ = [some (.ref scr), some (.int (0 + (i : Nat))), some (.ref p), some (.int (wide : Nat)), some v, some u, some (.ref PS), o7, o8, o9, oA]) ∧ But p H1 H7 ∧ Box H7 p ∧ Rep H7 (woodD wd) v ∧ Rep H7 (treeD t) u ∧ ∃ pvs, H7 PS = some (.lst pvs) ∧ pvs.length = j ∧ ∀ x ∈ pvs, ∃ pr, PrOk wd pr ∧ Rep H7 (prD pr) x) ⟨⟨_, _, rfl⟩, b06, hb6, rv6, rt6, [], hPS6, rfl, fun x z => (nomatch z)⟩ (fun _ _ _ _ _ => trivial) ?_ ?_
    · rintro j x σ H7a H7 hj ⟨⟨o7, o8, rfl⟩, b7, hb7, rv7, rt7, pvs, hP7, lpv, hpv⟩ ⟨rfl, rfl⟩
      walk_at "go"
      refine ⟨p, 9, rfl, hb7, by decide, by decide, fun dl H8 dl0 dl1 b8 hb8 => ?_⟩
      obtain ⟨k, rfl⟩ := Int.eq_ofNat_of_zero_le dl0
      walk_at "go"
      refine ⟨p, 1 + k, by show [V.ref p, V.int (1 + ((k : Nat) : Int))] ++ [] = _; simp, hb8, by omega, by omega, fun ls H9 lok b9 hb9 => ?_⟩
      have t79 := (hb7.tk b8).trans (hb8.tk b9)
      walk_at "go"
      refine g_tyL (b9 _ _ nPS (b8 _ _ nPS hP7)) ?_
      walk_at "go"
      refine ⟨p, wd, v, 6, rfl, hb9, rv7.tk t79 (wood_hard wd), ok, by decide, fun c cs H10 hc lcs hcs b10 hb10 => ?_⟩
      have t710 := t79.trans (hb9.tk b10)
      walk_at "go"
      refine ⟨p, c, wd, v, ls, cs, rfl, hb10, rv7.tk t710 (wood_hard wd), ok, lok, hc, lcs, hcs, fun pr pv H11 pok rp b11 hb11 => ?_⟩
      have b711 := b8.trans (b9.trans (b10.trans b11))
      have t711 := t710.trans (hb10.tk b11)
      have hP11 := b711 _ _ nPS hP7
      walk_at "go"
      refine g_app hP11 (Nat.lt_of_le_of_lt (by omega : pvs.length ≤ 1000) (by decide)) ?_
      have tu := tk_put (ys := pvs ++ [pv]) hP11
      have t7u := t711.trans tu
      have hPS1 : H1 PS = none := by
        cases z : H1 PS with
        | none => rfl
        | some o =>
          have := ((e2.but p).trans (b3.trans (b4.trans b5))) PS o nPS z
          rw [hPS] at this
          cases this
      walk_at "go"
      refine ⟨⟨_, _, rfl⟩, (b7.trans b711).at_new hPS1, hb11.at_upd nPS, rv7.tk t7u (wood_hard wd), rt7.tk t7u (tree_hard t), _, upd_same, by rw [List.length_append, lpv]; rfl, fun y hy => ?_⟩
      rcases List.mem_append.1 hy with hy | hy
      · obtain ⟨q1, q2, q3⟩ := hpv y hy
        exact ⟨q1, q2, q3.tk t7u (pr_hard q1)⟩
      · rw [List.mem_singleton.1 hy]
        exact ⟨pr, pok, rp.tk tu (pr_hard pr)⟩
    · rintro σ H7 ⟨⟨o7, o8, rfl⟩, b7, hb7, rv7, rt7, pvs, hP7, lpv, hpv⟩
      have eH : Ex H H7 := Ex.of_but ((e1.but p).trans b7) (e1.free hp)
      walk_at "go"
      refine g_seqLs ?_
      walk_at "go"
      refine g_slLU hP7 fun S hS2 => ?_
      have e8 := Ex.new (o := .lst (cutV pvs none (some 1))) hS2
      have hS8 := @upd_same H7 S (.lst (cutV pvs none (some 1)))
      have lcut : (cutV pvs none (some 1)).length ≤ 1 := cutV_to pvs 1
      have hP8 := e8 _ _ hP7
      revert e8 hS8 hP8
      generalize upd H7 S (.lst (cutV pvs none (some 1))) = H8
      intro e8 hS8 hP8
      walk_at "go"
      refine g_catL hP8 hS8 (by omega) fun L hL => ?_
      have e9 := e8.trans (Ex.new (o := .lst (pvs ++ cutV pvs none (some 1))) hL)
      have hL9 := @upd_same H8 L (.lst (pvs ++ cutV pvs none (some 1)))
      revert e9 hL9
      generalize upd H8 L (.lst (pvs ++ cutV pvs none (some 1))) = H9
      intro e9 hL9
      have hz : ∀ x ∈ pvs ++ cutV pvs none (some 1), ∃ pr, PrOk wd pr ∧ Rep H9 (prD pr) x := fun x hx => by
        have hm : x ∈ pvs := by
          rcases List.mem_append.1 hx with h | h
          · exact h
          · exact cutV_mem h
        obtain ⟨q1, q2, q3⟩ := hpv x hm
        exact ⟨q1, q2, q3.ex e9⟩
      have rv9 := rv7.ex e9
      have rt9 := rt7.ex e9
      refine ⟨_, rfl, ⟨_, sqL hL9⟩, ?_⟩
      refine for_it walk_list (fun j σ HA => (∃ o9 oA, σ = [some (.ref scr), some (.int (0 + (i : Nat))), some (.ref p), some (.int (wide : Nat)), some v, some u, some (.ref PS), o7, o8, o9, oA]) ∧ Ex H9 HA) ⟨⟨_, _, rfl⟩, Ex.refl _⟩ (fun j σ HA _ h => sqL (h.2 _ _ hL9)) ?_ ?_
      · rintro j x σ HAa HA hj ⟨⟨o9, oA, rfl⟩, eA⟩ ⟨rfl, hx⟩
        obtain ⟨pr, pok, rp⟩ := hz x (List.mem_of_getElem? hx)
        obtain ⟨ua, us, rfl, hua, rus⟩ := id (Rep.tupI (show Rep H9 (.tup (t.map rowD)) u from rt9))
        have lus : us.length = t.length := by rw [rus.len, List.length_map]
        have huA := eA _ _ hua
        walk_at "go"
        refine i_d (fun c => ?_) fun c => ?_
        · have t0 : 0 < t.length := by omega
          have fit := pr_fit ok pok tw hsz
          walk_at "go"
          refine ⟨wd, pr, t, v, x, .ref ua, rfl, rv9.ex eA, ok, rp.ex eA, pok.rules, rt9.ex eA, by omega, fit, fun fl fvs HB hfl eB hfv rfv => ?_⟩
          have lfv : fvs.length = t.length := by rw [rfv.len, List.length_map, prints_len]
          obtain ⟨dv, hdv⟩ : ∃ dv, fvs[t.length - 1]? = some dv := ⟨_, List.getElem?_eq_getElem (by omega)⟩
          obtain ⟨dd, hdd, rdue⟩ := rfv.get hdv
          rw [List.getElem?_map] at hdd
          have few := print_few ok pok tw (t.length - 1)
          have sig := print_sig ok pok tw (t.length - 1)
          have rdue2 : Rep HB (txsD ((prints wd pr t).getD (t.length - 1) [])) dv := by
            cases z : (prints wd pr t)[t.length - 1]? with
            | none => rw [z] at hdd; cases hdd
            | some ts =>
              rw [z] at hdd
              cases hdd
              rw [List.getD_eq_getElem?_getD, z]
              exact rdue
          generalize edue : (prints wd pr t).getD (t.length - 1) [] = due at few sig rdue2
          have eAB := eA.trans eB
          walk_at "go"
          refine g_ixL hfv (atI_last (n := t.length - 1) (by omega) hdv) ?_
          walk_at "go"
          refine ⟨wd, pr, t, v, x, .ref ua, rfl, rv9.ex eAB, ok, rp.ex eAB, pok.rules, rt9.ex eAB, t0, by omega, fit, fun av HC eC rav => ?_⟩
          rw [edue] at rav
          walk_at "go"
          refine ⟨_, av, dv, rfl, rav, rdue2.ex eC, by rw [txs_size]; omega, fun HD eD => ?_⟩
          have eBD := eC.trans eD
          have eAD := eAB.trans eBD
          walk_at "go"
          refine ⟨t, .ref ua, rfl, rt9.ex eAD, t0, by omega, tw.idx, fun kk pv2 HE hleft hinv eE rpl => ?_⟩
          have pe := hinv.fin hleft
          have tw2 := hinv.trw tw
          have eAE := eAD.trans eE
          walk_at "go"
          refine ⟨wd, pr, (runP t kk).rows, v, x, pv2, rfl, rv9.ex eAE, ok, rp.ex eAE, pok.rules, rpl, pe.pos, by have := pe.le; omega, pr_fit ok pok tw2 fun k hk => ?_, fun cv HF eF rcv => ?_⟩
          · obtain ⟨a, la, ea⟩ := pe.size hk
            rw [ea]
            exact hsz a la
          rw [pe.prints wd pr, edue] at rcv
          obtain ⟨ca, rfl, hca⟩ := txs_at rcv
          obtain ⟨da, rfl, hda⟩ := txs_at (rdue2.ex ((eBD.trans eE).trans eF))
          walk_at "go"
          refine g_neTs hca hda sig sig ?_
          walk_at "go"
          refine i_n (fun h => absurd rfl h) fun _ => ?_
          walk_at "go"
          exact ⟨⟨_, _, rfl⟩, eAE.trans eF⟩
        · walk_at "go"
          exact ⟨⟨_, _, rfl⟩, eA⟩
      · rintro σ HA ⟨⟨o9, oA, rfl⟩, eA⟩
        exact ⟨⟨_, _, _, _, _, _, _, _, _, _, rfl⟩, eH.trans (e9.trans eA)⟩
  · rintro σ H1 ⟨⟨o1, o2, o3, o4, o5, o6, o7, o8, o9, oA, rfl⟩, e1⟩
    walk_at "go"
    exact q _

end
theorem mk_txt {K : PySem.W.Frag} {h : Heap} {mg : Str → Option Value} (X : K.In h) (G : h.Ns mainGlobals mg)
    {f_makers_of f_joined f_printed_at f_law_box f_law_take f_law_names f_law_wood f_law_makers f_law_tree f_law_size f_law_plain f_law_alike f_law_letters f_law_item_text f_law_text_counts f_law_rows_of_items f_law_boxes_left f_law_printer f_law_prints f_law_some_tree f_law : Addr}
    {oc_makers_of kV_makers_of dc_makers_of pm_makers_of cd_makers_of ct_makers_of oc_joined kV_joined dc_joined pm_joined cd_joined ct_joined oc_printed_at kV_printed_at dc_printed_at pm_printed_at cd_printed_at ct_printed_at oc_law_box kV_law_box dc_law_box pm_law_box cd_law_box ct_law_box oc_law_take kV_law_take dc_law_take pm_law_take cd_law_take ct_law_take oc_law_names kV_law_names dc_law_names pm_law_names cd_law_names ct_law_names oc_law_wood kV_law_wood dc_law_wood pm_law_wood cd_law_wood ct_law_wood oc_law_makers kV_law_makers dc_law_makers pm_law_makers cd_law_makers ct_law_makers oc_law_tree kV_law_tree dc_law_tree pm_law_tree cd_law_tree ct_law_tree oc_law_size kV_law_size dc_law_size pm_law_size cd_law_size ct_law_size oc_law_plain kV_law_plain dc_law_plain pm_law_plain cd_law_plain ct_law_plain oc_law_alike kV_law_alike dc_law_alike pm_law_alike cd_law_alike ct_law_alike oc_law_letters kV_law_letters dc_law_letters pm_law_letters cd_law_letters ct_law_letters oc_law_item_text kV_law_item_text dc_law_item_text pm_law_item_text cd_law_item_text ct_law_item_text oc_law_text_counts kV_law_text_counts dc_law_text_counts pm_law_text_counts cd_law_text_counts ct_law_text_counts oc_law_rows_of_items kV_law_rows_of_items dc_law_rows_of_items pm_law_rows_of_items cd_law_rows_of_items ct_law_rows_of_items oc_law_boxes_left kV_law_boxes_left dc_law_boxes_left pm_law_boxes_left cd_law_boxes_left ct_law_boxes_left oc_law_printer kV_law_printer dc_law_printer pm_law_printer cd_law_printer ct_law_printer oc_law_prints kV_law_prints dc_law_prints pm_law_prints cd_law_prints ct_law_prints oc_law_some_tree kV_law_some_tree dc_law_some_tree pm_law_some_tree cd_law_some_tree ct_law_some_tree oc_law kV_law dc_law pm_law cd_law ct_law : Value}
    {od_makers_of an_makers_of od_joined an_joined od_printed_at an_printed_at od_law_box an_law_box od_law_take an_law_take od_law_names an_law_names od_law_wood an_law_wood od_law_makers an_law_makers od_law_tree an_law_tree od_law_size an_law_size od_law_plain an_law_plain od_law_alike an_law_alike od_law_letters an_law_letters od_law_item_text an_law_item_text od_law_text_counts an_law_text_counts od_law_rows_of_items an_law_rows_of_items od_law_boxes_left an_law_boxes_left od_law_printer an_law_printer od_law_prints an_law_prints od_law_some_tree an_law_some_tree od_law an_law : Option Addr}
    {sl_makers_of sl_joined sl_printed_at sl_law_box sl_law_take sl_law_names sl_law_wood sl_law_makers sl_law_tree sl_law_size sl_law_plain sl_law_alike sl_law_letters sl_law_item_text sl_law_text_counts sl_law_rows_of_items sl_law_boxes_left sl_law_printer sl_law_prints sl_law_some_tree sl_law : Array (Option Value)}
    (a_makers_of : PySem.W.nsIn K mainGlobals "makers_of" = some (some (.ref f_makers_of)))
    (l_makers_of : K.lookup f_makers_of = some ⟨oc_makers_of, od_makers_of, .func (PySem.W.fnOf "makers_of" "makers_of" (defArgs s_makers_of) (defBody s_makers_of) (defScope s_makers_of) .none kV_makers_of dc_makers_of pm_makers_of an_makers_of cd_makers_of ct_makers_of), sl_makers_of⟩)
    (c_makers_of : PySem.W.codeIn K cd_makers_of "makers_of" = true)
    (k_makers_of : PySem.W.keepIn K (.ref f_makers_of) = true)
    (a_joined : PySem.W.nsIn K mainGlobals "joined" = some (some (.ref f_joined)))
    (l_joined : K.lookup f_joined = some ⟨oc_joined, od_joined, .func (PySem.W.fnOf "joined" "joined" (defArgs s_joined) (defBody s_joined) (defScope s_joined) .none kV_joined dc_joined pm_joined an_joined cd_joined ct_joined), sl_joined⟩)
    (c_joined : PySem.W.codeIn K cd_joined "joined" = true)
    (k_joined : PySem.W.keepIn K (.ref f_joined) = true)
    (a_printed_at : PySem.W.nsIn K mainGlobals "printed_at" = some (some (.ref f_printed_at)))
    (l_printed_at : K.lookup f_printed_at = some ⟨oc_printed_at, od_printed_at, .func (PySem.W.fnOf "printed_at" "printed_at" (defArgs s_printed_at) (defBody s_printed_at) (defScope s_printed_at) .none kV_printed_at dc_printed_at pm_printed_at an_printed_at cd_printed_at ct_printed_at), sl_printed_at⟩)
    (c_printed_at : PySem.W.codeIn K cd_printed_at "printed_at" = true)
    (k_printed_at : PySem.W.keepIn K (.ref f_printed_at) = true)
    (a_law_box : PySem.W.nsIn K mainGlobals "_law_box" = some (some (.ref f_law_box)))
    (l_law_box : K.lookup f_law_box = some ⟨oc_law_box, od_law_box, .func (PySem.W.fnOf "_law_box" "_law_box" (defArgs s_law_box) (defBody s_law_box) (defScope s_law_box) .none kV_law_box dc_law_box pm_law_box an_law_box cd_law_box ct_law_box), sl_law_box⟩)
    (c_law_box : PySem.W.codeIn K cd_law_box "_law_box" = true)
    (k_law_box : PySem.W.keepIn K (.ref f_law_box) = true)
    (a_law_take : PySem.W.nsIn K mainGlobals "_law_take" = some (some (.ref f_law_take)))
    (l_law_take : K.lookup f_law_take = some ⟨oc_law_take, od_law_take, .func (PySem.W.fnOf "_law_take" "_law_take" (defArgs s_law_take) (defBody s_law_take) (defScope s_law_take) .none kV_law_take dc_law_take pm_law_take an_law_take cd_law_take ct_law_take), sl_law_take⟩)
    (c_law_take : PySem.W.codeIn K cd_law_take "_law_take" = true)
    (k_law_take : PySem.W.keepIn K (.ref f_law_take) = true)
    (a_law_names : PySem.W.nsIn K mainGlobals "_law_names" = some (some (.ref f_law_names)))
    (l_law_names : K.lookup f_law_names = some ⟨oc_law_names, od_law_names, .func (PySem.W.fnOf "_law_names" "_law_names" (defArgs s_law_names) (defBody s_law_names) (defScope s_law_names) .none kV_law_names dc_law_names pm_law_names an_law_names cd_law_names ct_law_names), sl_law_names⟩)
    (c_law_names : PySem.W.codeIn K cd_law_names "_law_names" = true)
    (k_law_names : PySem.W.keepIn K (.ref f_law_names) = true)
    (a_law_wood : PySem.W.nsIn K mainGlobals "_law_wood" = some (some (.ref f_law_wood)))
    (l_law_wood : K.lookup f_law_wood = some ⟨oc_law_wood, od_law_wood, .func (PySem.W.fnOf "_law_wood" "_law_wood" (defArgs s_law_wood) (defBody s_law_wood) (defScope s_law_wood) .none kV_law_wood dc_law_wood pm_law_wood an_law_wood cd_law_wood ct_law_wood), sl_law_wood⟩)
    (c_law_wood : PySem.W.codeIn K cd_law_wood "_law_wood" = true)
    (k_law_wood : PySem.W.keepIn K (.ref f_law_wood) = true)
    (a_law_makers : PySem.W.nsIn K mainGlobals "_law_makers" = some (some (.ref f_law_makers)))
    (l_law_makers : K.lookup f_law_makers = some ⟨oc_law_makers, od_law_makers, .func (PySem.W.fnOf "_law_makers" "_law_makers" (defArgs s_law_makers) (defBody s_law_makers) (defScope s_law_makers) .none kV_law_makers dc_law_makers pm_law_makers an_law_makers cd_law_makers ct_law_makers), sl_law_makers⟩)
    (c_law_makers : PySem.W.codeIn K cd_law_makers "_law_makers" = true)
    (k_law_makers : PySem.W.keepIn K (.ref f_law_makers) = true)
    (a_law_tree : PySem.W.nsIn K mainGlobals "_law_tree" = some (some (.ref f_law_tree)))
    (l_law_tree : K.lookup f_law_tree = some ⟨oc_law_tree, od_law_tree, .func (PySem.W.fnOf "_law_tree" "_law_tree" (defArgs s_law_tree) (defBody s_law_tree) (defScope s_law_tree) .none kV_law_tree dc_law_tree pm_law_tree an_law_tree cd_law_tree ct_law_tree), sl_law_tree⟩)
    (c_law_tree : PySem.W.codeIn K cd_law_tree "_law_tree" = true)
    (k_law_tree : PySem.W.keepIn K (.ref f_law_tree) = true)
    (a_law_size : PySem.W.nsIn K mainGlobals "_law_size" = some (some (.ref f_law_size)))
    (l_law_size : K.lookup f_law_size = some ⟨oc_law_size, od_law_size, .func (PySem.W.fnOf "_law_size" "_law_size" (defArgs s_law_size) (defBody s_law_size) (defScope s_law_size) .none kV_law_size dc_law_size pm_law_size an_law_size cd_law_size ct_law_size), sl_law_size⟩)
    (c_law_size : PySem.W.codeIn K cd_law_size "_law_size" = true)
    (k_law_size : PySem.W.keepIn K (.ref f_law_size) = true)
    (a_law_plain : PySem.W.nsIn K mainGlobals "_law_plain" = some (some (.ref f_law_plain)))
    (l_law_plain : K.lookup f_law_plain = some ⟨oc_law_plain, od_law_plain, .func (PySem.W.fnOf "_law_plain" "_law_plain" (defArgs s_law_plain) (defBody s_law_plain) (defScope s_law_plain) .none kV_law_plain dc_law_plain pm_law_plain an_law_plain cd_law_plain ct_law_plain), sl_law_plain⟩)
    (c_law_plain : PySem.W.codeIn K cd_law_plain "_law_plain" = true)
    (k_law_plain : PySem.W.keepIn K (.ref f_law_plain) = true)
    (a_law_alike : PySem.W.nsIn K mainGlobals "_law_alike" = some (some (.ref f_law_alike)))
    (l_law_alike : K.lookup f_law_alike = some ⟨oc_law_alike, od_law_alike, .func (PySem.W.fnOf "_law_alike" "_law_alike" (defArgs s_law_alike) (defBody s_law_alike) (defScope s_law_alike) .none kV_law_alike dc_law_alike pm_law_alike an_law_alike cd_law_alike ct_law_alike), sl_law_alike⟩)
    (c_law_alike : PySem.W.codeIn K cd_law_alike "_law_alike" = true)
    (k_law_alike : PySem.W.keepIn K (.ref f_law_alike) = true)
    (a_law_letters : PySem.W.nsIn K mainGlobals "_law_letters" = some (some (.ref f_law_letters)))
    (l_law_letters : K.lookup f_law_letters = some ⟨oc_law_letters, od_law_letters, .func (PySem.W.fnOf "_law_letters" "_law_letters" (defArgs s_law_letters) (defBody s_law_letters) (defScope s_law_letters) .none kV_law_letters dc_law_letters pm_law_letters an_law_letters cd_law_letters ct_law_letters), sl_law_letters⟩)
    (c_law_letters : PySem.W.codeIn K cd_law_letters "_law_letters" = true)
    (k_law_letters : PySem.W.keepIn K (.ref f_law_letters) = true)
    (a_law_item_text : PySem.W.nsIn K mainGlobals "_law_item_text" = some (some (.ref f_law_item_text)))
    (l_law_item_text : K.lookup f_law_item_text = some ⟨oc_law_item_text, od_law_item_text, .func (PySem.W.fnOf "_law_item_text" "_law_item_text" (defArgs s_law_item_text) (defBody s_law_item_text) (defScope s_law_item_text) .none kV_law_item_text dc_law_item_text pm_law_item_text an_law_item_text cd_law_item_text ct_law_item_text), sl_law_item_text⟩)
    (c_law_item_text : PySem.W.codeIn K cd_law_item_text "_law_item_text" = true)
    (k_law_item_text : PySem.W.keepIn K (.ref f_law_item_text) = true)
    (a_law_text_counts : PySem.W.nsIn K mainGlobals "_law_text_counts" = some (some (.ref f_law_text_counts)))
    (l_law_text_counts : K.lookup f_law_text_counts = some ⟨oc_law_text_counts, od_law_text_counts, .func (PySem.W.fnOf "_law_text_counts" "_law_text_counts" (defArgs s_law_text_counts) (defBody s_law_text_counts) (defScope s_law_text_counts) .none kV_law_text_counts dc_law_text_counts pm_law_text_counts an_law_text_counts cd_law_text_counts ct_law_text_counts), sl_law_text_counts⟩)
    (c_law_text_counts : PySem.W.codeIn K cd_law_text_counts "_law_text_counts" = true)
    (k_law_text_counts : PySem.W.keepIn K (.ref f_law_text_counts) = true)
    (a_law_rows_of_items : PySem.W.nsIn K mainGlobals "_law_rows_of_items" = some (some (.ref f_law_rows_of_items)))
    (l_law_rows_of_items : K.lookup f_law_rows_of_items = some ⟨oc_law_rows_of_items, od_law_rows_of_items, .func (PySem.W.fnOf "_law_rows_of_items" "_law_rows_of_items" (defArgs s_law_rows_of_items) (defBody s_law_rows_of_items) (defScope s_law_rows_of_items) .none kV_law_rows_of_items dc_law_rows_of_items pm_law_rows_of_items an_law_rows_of_items cd_law_rows_of_items ct_law_rows_of_items), sl_law_rows_of_items⟩)
    (c_law_rows_of_items : PySem.W.codeIn K cd_law_rows_of_items "_law_rows_of_items" = true)
    (k_law_rows_of_items : PySem.W.keepIn K (.ref f_law_rows_of_items) = true)
    (a_law_boxes_left : PySem.W.nsIn K mainGlobals "_law_boxes_left" = some (some (.ref f_law_boxes_left)))
    (l_law_boxes_left : K.lookup f_law_boxes_left = some ⟨oc_law_boxes_left, od_law_boxes_left, .func (PySem.W.fnOf "_law_boxes_left" "_law_boxes_left" (defArgs s_law_boxes_left) (defBody s_law_boxes_left) (defScope s_law_boxes_left) .none kV_law_boxes_left dc_law_boxes_left pm_law_boxes_left an_law_boxes_left cd_law_boxes_left ct_law_boxes_left), sl_law_boxes_left⟩)
    (c_law_boxes_left : PySem.W.codeIn K cd_law_boxes_left "_law_boxes_left" = true)
    (k_law_boxes_left : PySem.W.keepIn K (.ref f_law_boxes_left) = true)
    (a_law_printer : PySem.W.nsIn K mainGlobals "_law_printer" = some (some (.ref f_law_printer)))
    (l_law_printer : K.lookup f_law_printer = some ⟨oc_law_printer, od_law_printer, .func (PySem.W.fnOf "_law_printer" "_law_printer" (defArgs s_law_printer) (defBody s_law_printer) (defScope s_law_printer) .none kV_law_printer dc_law_printer pm_law_printer an_law_printer cd_law_printer ct_law_printer), sl_law_printer⟩)
    (c_law_printer : PySem.W.codeIn K cd_law_printer "_law_printer" = true)
    (k_law_printer : PySem.W.keepIn K (.ref f_law_printer) = true)
    (a_law_prints : PySem.W.nsIn K mainGlobals "_law_prints" = some (some (.ref f_law_prints)))
    (l_law_prints : K.lookup f_law_prints = some ⟨oc_law_prints, od_law_prints, .func (PySem.W.fnOf "_law_prints" "_law_prints" (defArgs s_law_prints) (defBody s_law_prints) (defScope s_law_prints) .none kV_law_prints dc_law_prints pm_law_prints an_law_prints cd_law_prints ct_law_prints), sl_law_prints⟩)
    (c_law_prints : PySem.W.codeIn K cd_law_prints "_law_prints" = true)
    (k_law_prints : PySem.W.keepIn K (.ref f_law_prints) = true)
    (a_law_some_tree : PySem.W.nsIn K mainGlobals "_law_some_tree" = some (some (.ref f_law_some_tree)))
    (l_law_some_tree : K.lookup f_law_some_tree = some ⟨oc_law_some_tree, od_law_some_tree, .func (PySem.W.fnOf "_law_some_tree" "_law_some_tree" (defArgs s_law_some_tree) (defBody s_law_some_tree) (defScope s_law_some_tree) .none kV_law_some_tree dc_law_some_tree pm_law_some_tree an_law_some_tree cd_law_some_tree ct_law_some_tree), sl_law_some_tree⟩)
    (c_law_some_tree : PySem.W.codeIn K cd_law_some_tree "_law_some_tree" = true)
    (k_law_some_tree : PySem.W.keepIn K (.ref f_law_some_tree) = true)
    (a_law : PySem.W.nsIn K mainGlobals "law" = some (some (.ref f_law)))
    (l_law : K.lookup f_law = some ⟨oc_law, od_law, .func (PySem.W.fnOf "law" "law" (defArgs s_law) (defBody s_law) (defScope s_law) .none kV_law dc_law pm_law an_law cd_law ct_law), sl_law⟩)
    (c_law : PySem.W.codeIn K cd_law "law" = true)
    (k_law : PySem.W.keepIn K (.ref f_law) = true)
    (zb_all : PySem.W.nsIn K mainGlobals "all" = some none)
    (zb_bool : PySem.W.nsIn K mainGlobals "bool" = some none)
    (zb_dict : PySem.W.nsIn K mainGlobals "dict" = some none)
    (zb_enumerate : PySem.W.nsIn K mainGlobals "enumerate" = some none)
    (zb_int : PySem.W.nsIn K mainGlobals "int" = some none)
    (zb_isinstance : PySem.W.nsIn K mainGlobals "isinstance" = some none)
    (zb_len : PySem.W.nsIn K mainGlobals "len" = some none)
    (zb_list : PySem.W.nsIn K mainGlobals "list" = some none)
    (zb_max : PySem.W.nsIn K mainGlobals "max" = some none)
    (zb_min : PySem.W.nsIn K mainGlobals "min" = some none)
    (zb_range : PySem.W.nsIn K mainGlobals "range" = some none)
    (zb_reversed : PySem.W.nsIn K mainGlobals "reversed" = some none)
    (zb_str : PySem.W.nsIn K mainGlobals "str" = some none)
    (zb_sum : PySem.W.nsIn K mainGlobals "sum" = some none)
    (zb_tuple : PySem.W.nsIn K mainGlobals "tuple" = some none)
    (zb_zip : PySem.W.nsIn K mainGlobals "zip" = some none)
    : ∃ T : Txt K mg, T.a_law = f_law ∧ ∀ (s : Shared) (v : Value), BindsTo s T.d_law ⟨[v], []⟩ [("_law_script", v)] := by
  refine ⟨{
    a_makers_of := f_makers_of,
    d_makers_of := _,
    m_makers_of := PySem.W.mg_of X G a_makers_of,
    F_makers_of := fun_mk (st := s_makers_of) l_makers_of c_makers_of k_makers_of,
    b_makers_of := (fun_mk (st := s_makers_of) l_makers_of c_makers_of k_makers_of).binds (ps := ["wood"]) fun _ _ _ _ _ _ us hl => match us, hl with | [_], _ => rfl,
    a_joined := f_joined,
    d_joined := _,
    m_joined := PySem.W.mg_of X G a_joined,
    F_joined := fun_mk (st := s_joined) l_joined c_joined k_joined,
    b_joined := (fun_mk (st := s_joined) l_joined c_joined k_joined).binds (ps := ["row", "parts"]) fun _ _ _ _ _ _ us hl => match us, hl with | [_, _], _ => rfl,
    a_printed_at := f_printed_at,
    d_printed_at := _,
    m_printed_at := PySem.W.mg_of X G a_printed_at,
    F_printed_at := fun_mk (st := s_printed_at) l_printed_at c_printed_at k_printed_at,
    b_printed_at := (fun_mk (st := s_printed_at) l_printed_at c_printed_at k_printed_at).binds (ps := ["wood", "printer", "tree"]) fun _ _ _ _ _ _ us hl => match us, hl with | [_, _, _], _ => rfl,
    a_law_box := f_law_box,
    d_law_box := _,
    m_law_box := PySem.W.mg_of X G a_law_box,
    F_law_box := fun_mk (st := s_law_box) l_law_box c_law_box k_law_box,
    b_law_box := (fun_mk (st := s_law_box) l_law_box c_law_box k_law_box).binds (ps := ["_law_script", "_law_k"]) fun _ _ _ _ _ _ us hl => match us, hl with | [_, _], _ => rfl,
    a_law_take := f_law_take,
    d_law_take := _,
    m_law_take := PySem.W.mg_of X G a_law_take,
    F_law_take := fun_mk (st := s_law_take) l_law_take c_law_take k_law_take,
    b_law_take := (fun_mk (st := s_law_take) l_law_take c_law_take k_law_take).binds (ps := ["_law_box_here", "_law_many"]) fun _ _ _ _ _ _ us hl => match us, hl with | [_, _], _ => rfl,
    a_law_names := f_law_names,
    d_law_names := _,
    m_law_names := PySem.W.mg_of X G a_law_names,
    F_law_names := fun_mk (st := s_law_names) l_law_names c_law_names k_law_names,
    b_law_names := (fun_mk (st := s_law_names) l_law_names c_law_names k_law_names).binds (ps := ["_law_box_here", "_law_many"]) fun _ _ _ _ _ _ us hl => match us, hl with | [_, _], _ => rfl,
    a_law_wood := f_law_wood,
    d_law_wood := _,
    m_law_wood := PySem.W.mg_of X G a_law_wood,
    F_law_wood := fun_mk (st := s_law_wood) l_law_wood c_law_wood k_law_wood,
    b_law_wood := (fun_mk (st := s_law_wood) l_law_wood c_law_wood k_law_wood).binds (ps := ["_law_box_here", "_law_most_kinds", "_law_most_makers"]) fun _ _ _ _ _ _ us hl => match us, hl with | [_, _, _], _ => rfl,
    a_law_makers := f_law_makers,
    d_law_makers := _,
    m_law_makers := PySem.W.mg_of X G a_law_makers,
    F_law_makers := fun_mk (st := s_law_makers) l_law_makers c_law_makers k_law_makers,
    b_law_makers := (fun_mk (st := s_law_makers) l_law_makers c_law_makers k_law_makers).binds (ps := ["_law_wood_here"]) fun _ _ _ _ _ _ us hl => match us, hl with | [_], _ => rfl,
    a_law_tree := f_law_tree,
    d_law_tree := _,
    m_law_tree := PySem.W.mg_of X G a_law_tree,
    F_law_tree := fun_mk (st := s_law_tree) l_law_tree c_law_tree k_law_tree,
    b_law_tree := (fun_mk (st := s_law_tree) l_law_tree c_law_tree k_law_tree).binds (ps := ["_law_box_here", "_law_wood_here", "_law_most"]) fun _ _ _ _ _ _ us hl => match us, hl with | [_, _, _], _ => rfl,
    a_law_size := f_law_size,
    d_law_size := _,
    m_law_size := PySem.W.mg_of X G a_law_size,
    F_law_size := fun_mk (st := s_law_size) l_law_size c_law_size k_law_size,
    b_law_size := (fun_mk (st := s_law_size) l_law_size c_law_size k_law_size).binds (ps := ["_law_tree_here"]) fun _ _ _ _ _ _ us hl => match us, hl with | [_], _ => rfl,
    a_law_plain := f_law_plain,
    d_law_plain := _,
    m_law_plain := PySem.W.mg_of X G a_law_plain,
    F_law_plain := fun_mk (st := s_law_plain) l_law_plain c_law_plain k_law_plain,
    b_law_plain := (fun_mk (st := s_law_plain) l_law_plain c_law_plain k_law_plain).binds (ps := ["_law_tree_here"]) fun _ _ _ _ _ _ us hl => match us, hl with | [_], _ => rfl,
    a_law_alike := f_law_alike,
    d_law_alike := _,
    m_law_alike := PySem.W.mg_of X G a_law_alike,
    F_law_alike := fun_mk (st := s_law_alike) l_law_alike c_law_alike k_law_alike,
    b_law_alike := (fun_mk (st := s_law_alike) l_law_alike c_law_alike k_law_alike).binds (ps := ["_law_found", "_law_due"]) fun _ _ _ _ _ _ us hl => match us, hl with | [_, _], _ => rfl,
    a_law_letters := f_law_letters,
    d_law_letters := _,
    m_law_letters := PySem.W.mg_of X G a_law_letters,
    F_law_letters := fun_mk (st := s_law_letters) l_law_letters c_law_letters k_law_letters,
    b_law_letters := (fun_mk (st := s_law_letters) l_law_letters c_law_letters k_law_letters).binds (ps := ["_law_box_here", "_law_many"]) fun _ _ _ _ _ _ us hl => match us, hl with | [_, _], _ => rfl,
    a_law_item_text := f_law_item_text,
    d_law_item_text := _,
    m_law_item_text := PySem.W.mg_of X G a_law_item_text,
    F_law_item_text := fun_mk (st := s_law_item_text) l_law_item_text c_law_item_text k_law_item_text,
    b_law_item_text := (fun_mk (st := s_law_item_text) l_law_item_text c_law_item_text k_law_item_text).binds (ps := ["_law_box_here", "_law_letters_here"]) fun _ _ _ _ _ _ us hl => match us, hl with | [_, _], _ => rfl,
    a_law_text_counts := f_law_text_counts,
    d_law_text_counts := _,
    m_law_text_counts := PySem.W.mg_of X G a_law_text_counts,
    F_law_text_counts := fun_mk (st := s_law_text_counts) l_law_text_counts c_law_text_counts k_law_text_counts,
    b_law_text_counts := (fun_mk (st := s_law_text_counts) l_law_text_counts c_law_text_counts k_law_text_counts).binds (ps := ["_law_box_here", "_law_wood_here", "_law_most"]) fun _ _ _ _ _ _ us hl => match us, hl with | [_, _, _], _ => rfl,
    a_law_rows_of_items := f_law_rows_of_items,
    d_law_rows_of_items := _,
    m_law_rows_of_items := PySem.W.mg_of X G a_law_rows_of_items,
    F_law_rows_of_items := fun_mk (st := s_law_rows_of_items) l_law_rows_of_items c_law_rows_of_items k_law_rows_of_items,
    b_law_rows_of_items := (fun_mk (st := s_law_rows_of_items) l_law_rows_of_items c_law_rows_of_items k_law_rows_of_items).binds (ps := ["_law_box_here", "_law_letters_here", "_law_many", "_law_left"]) fun _ _ _ _ _ _ us hl => match us, hl with | [_, _, _, _], _ => rfl,
    a_law_boxes_left := f_law_boxes_left,
    d_law_boxes_left := _,
    m_law_boxes_left := PySem.W.mg_of X G a_law_boxes_left,
    F_law_boxes_left := fun_mk (st := s_law_boxes_left) l_law_boxes_left c_law_boxes_left k_law_boxes_left,
    b_law_boxes_left := (fun_mk (st := s_law_boxes_left) l_law_boxes_left c_law_boxes_left k_law_boxes_left).binds (ps := ["_law_parts", "_law_counts"]) fun _ _ _ _ _ _ us hl => match us, hl with | [_, _], _ => rfl,
    a_law_printer := f_law_printer,
    d_law_printer := _,
    m_law_printer := PySem.W.mg_of X G a_law_printer,
    F_law_printer := fun_mk (st := s_law_printer) l_law_printer c_law_printer k_law_printer,
    b_law_printer := (fun_mk (st := s_law_printer) l_law_printer c_law_printer k_law_printer).binds (ps := ["_law_box_here", "_law_wood_here", "_law_letters_here", "_law_counts"]) fun _ _ _ _ _ _ us hl => match us, hl with | [_, _, _, _], _ => rfl,
    a_law_prints := f_law_prints,
    d_law_prints := _,
    m_law_prints := PySem.W.mg_of X G a_law_prints,
    F_law_prints := fun_mk (st := s_law_prints) l_law_prints c_law_prints k_law_prints,
    b_law_prints := (fun_mk (st := s_law_prints) l_law_prints c_law_prints k_law_prints).binds (ps := ["_law_wood_here", "_law_printer_here", "_law_tree_here"]) fun _ _ _ _ _ _ us hl => match us, hl with | [_, _, _], _ => rfl,
    a_law_some_tree := f_law_some_tree,
    d_law_some_tree := _,
    m_law_some_tree := PySem.W.mg_of X G a_law_some_tree,
    F_law_some_tree := fun_mk (st := s_law_some_tree) l_law_some_tree c_law_some_tree k_law_some_tree,
    b_law_some_tree := (fun_mk (st := s_law_some_tree) l_law_some_tree c_law_some_tree k_law_some_tree).binds (ps := ["_law_box_here", "_law_wood_here"]) fun _ _ _ _ _ _ us hl => match us, hl with | [_, _], _ => rfl,
    a_law := f_law,
    d_law := _,
    m_law := PySem.W.mg_of X G a_law,
    F_law := fun_mk (st := s_law) l_law c_law k_law,
    b_law := (fun_mk (st := s_law) l_law c_law k_law).binds (ps := ["_law_script"]) fun _ _ _ _ _ _ us hl => match us, hl with | [_], _ => rfl,
    z_all := PySem.W.mg_none_of X G zb_all,
    z_bool := PySem.W.mg_none_of X G zb_bool,
    z_dict := PySem.W.mg_none_of X G zb_dict,
    z_enumerate := PySem.W.mg_none_of X G zb_enumerate,
    z_int := PySem.W.mg_none_of X G zb_int,
    z_isinstance := PySem.W.mg_none_of X G zb_isinstance,
    z_len := PySem.W.mg_none_of X G zb_len,
    z_list := PySem.W.mg_none_of X G zb_list,
    z_max := PySem.W.mg_none_of X G zb_max,
    z_min := PySem.W.mg_none_of X G zb_min,
    z_range := PySem.W.mg_none_of X G zb_range,
    z_reversed := PySem.W.mg_none_of X G zb_reversed,
    z_str := PySem.W.mg_none_of X G zb_str,
    z_sum := PySem.W.mg_none_of X G zb_sum,
    z_tuple := PySem.W.mg_none_of X G zb_tuple,
    z_zip := PySem.W.mg_none_of X G zb_zip }, rfl, fun s v => .of_eq rfl⟩
end Lw
namespace Lw
open PySem PySem.Spec PyProof.Rows L2 Bk
theorem walk {l : PySem.W.OpenLaw} {q : Program} {loose : List Str} {XP : (Str → Option Value) → Heap → Prop} {YP : World → Heap → Prop} {d : DefRec} {K : Params → PySem.W.Frag} (hn : l.most = some 63) (hdf : d.params.defaults = [])
    (hY : ∀ (w : World) (h : Heap), YP w h → (K w.params).In h)
    (F : ∀ (w : World) (mg : Str → Option Value) (fa : Addr) (h : Heap), (K w.params).In h → h.Ns mainGlobals mg → mg d.name = some (.ref fa) →
      ∃ fd : FuncData, (∀ (s : Shared) (u : Value), BindsTo s fd ⟨[u], []⟩ [("_law_script", u)]) ∧ ∀ base : Heap, (K w.params).In base → base.Ns mainGlobals mg → FnOk l.prog w (K w.params) mg base (L2.CX l.prog w) 5 fa fd ["_law_script"] (spLaw (K w.params))) :
    PySem.W.WalkO q loose XP YP l.row.toRowW d [] (fun f vs => PySem.call f vs) :=
  L2.walk_of (n := 63) (k := 5) (x := "_law_script") (CX := fun w => L2.CX l.prog w) (sp := fun w => spLaw (K w.params)) hn (by decide) hdf ⟨rfl, by decide, by decide⟩ hY F (fun _ _ a ns hl hO hS => spLaw_of hO hS hl) fun _ _ _ _ _ z => cx_false z
theorem fin {P : Program} {w : World} {K : PySem.W.Frag} {mg : Str → Option Value} {fa f : Addr} (hmg : mg "law" = some (.ref fa)) (z : ∃ T : Txt K mg, T.a_law = f ∧ ∀ (s : Shared) (v : Value), BindsTo s T.d_law ⟨[v], []⟩ [("_law_script", v)]) :
    ∃ fd : FuncData, (∀ (s : Shared) (u : Value), BindsTo s fd ⟨[u], []⟩ [("_law_script", u)]) ∧ ∀ base : Heap, K.In base → base.Ns mainGlobals mg → FnOk P w K mg base (L2.CX P w) 5 fa fd ["_law_script"] (spLaw K) := by
  obtain ⟨T, ea, hb⟩ := z
  refine ⟨T.d_law, hb, fun base _ _ => ?_⟩
  have e := hmg.symm.trans T.m_law
  cases e
  exact ok_law T
end Lw
open PySem PySem.W PyProof.Rows
set_option maxRecDepth 100000 in
set_option maxHeartbeats 0 in
theorem PySem.Challenge.cw_boughkept_k42_printed_holds : PySem.Challenge.rw_boughkept_k42_printed.Holds := by
  w_on; o_law; k_head; (case hw => w_witness2)
  k_fill
  refine Lw.walk (l := PySem.Challenge.rw_boughkept_k42_printed) rfl rfl (fun w h Y => PySem.W.kIn_of Y) ?F
  case F =>
    intro w mg fa h KX G hmg
    refine' Lw.fin hmg (Lw.mk_txt KX G ?a_makers_of ?l_makers_of ?c_makers_of ?k_makers_of ?a_joined ?l_joined ?c_joined ?k_joined ?a_printed_at ?l_printed_at ?c_printed_at ?k_printed_at ?a_law_box ?l_law_box ?c_law_box ?k_law_box ?a_law_take ?l_law_take ?c_law_take ?k_law_take ?a_law_names ?l_law_names ?c_law_names ?k_law_names ?a_law_wood ?l_law_wood ?c_law_wood ?k_law_wood ?a_law_makers ?l_law_makers ?c_law_makers ?k_law_makers ?a_law_tree ?l_law_tree ?c_law_tree ?k_law_tree ?a_law_size ?l_law_size ?c_law_size ?k_law_size ?a_law_plain ?l_law_plain ?c_law_plain ?k_law_plain ?a_law_alike ?l_law_alike ?c_law_alike ?k_law_alike ?a_law_letters ?l_law_letters ?c_law_letters ?k_law_letters ?a_law_item_text ?l_law_item_text ?c_law_item_text ?k_law_item_text ?a_law_text_counts ?l_law_text_counts ?c_law_text_counts ?k_law_text_counts ?a_law_rows_of_items ?l_law_rows_of_items ?c_law_rows_of_items ?k_law_rows_of_items ?a_law_boxes_left ?l_law_boxes_left ?c_law_boxes_left ?k_law_boxes_left ?a_law_printer ?l_law_printer ?c_law_printer ?k_law_printer ?a_law_prints ?l_law_prints ?c_law_prints ?k_law_prints ?a_law_some_tree ?l_law_some_tree ?c_law_some_tree ?k_law_some_tree ?a_law ?l_law ?c_law ?k_law ?zb_all ?zb_bool ?zb_dict ?zb_enumerate ?zb_int ?zb_isinstance ?zb_len ?zb_list ?zb_max ?zb_min ?zb_range ?zb_reversed ?zb_str ?zb_sum ?zb_tuple ?zb_zip)
    (case a_makers_of => k_is)
    (case l_makers_of => k_is)
    (case c_makers_of => k_is)
    (case k_makers_of => k_is)
    (case a_joined => k_is)
    (case l_joined => k_is)
    (case c_joined => k_is)
    (case k_joined => k_is)
    (case a_printed_at => k_is)
    (case l_printed_at => k_is)
    (case c_printed_at => k_is)
    (case k_printed_at => k_is)
    (case a_law_box => k_is)
    (case l_law_box => k_is)
    (case c_law_box => k_is)
    (case k_law_box => k_is)
    (case a_law_take => k_is)
    (case l_law_take => k_is)
    (case c_law_take => k_is)
    (case k_law_take => k_is)
    (case a_law_names => k_is)
    (case l_law_names => k_is)
    (case c_law_names => k_is)
    (case k_law_names => k_is)
    (case a_law_wood => k_is)
    (case l_law_wood => k_is)
    (case c_law_wood => k_is)
    (case k_law_wood => k_is)
    (case a_law_makers => k_is)
    (case l_law_makers => k_is)
    (case c_law_makers => k_is)
    (case k_law_makers => k_is)
    (case a_law_tree => k_is)
    (case l_law_tree => k_is)
    (case c_law_tree => k_is)
    (case k_law_tree => k_is)
    (case a_law_size => k_is)
    (case l_law_size => k_is)
    (case c_law_size => k_is)
    (case k_law_size => k_is)
    (case a_law_plain => k_is)
    (case l_law_plain => k_is)
    (case c_law_plain => k_is)
    (case k_law_plain => k_is)
    (case a_law_alike => k_is)
    (case l_law_alike => k_is)
    (case c_law_alike => k_is)
    (case k_law_alike => k_is)
    (case a_law_letters => k_is)
    (case l_law_letters => k_is)
    (case c_law_letters => k_is)
    (case k_law_letters => k_is)
    (case a_law_item_text => k_is)
    (case l_law_item_text => k_is)
    (case c_law_item_text => k_is)
    (case k_law_item_text => k_is)
    (case a_law_text_counts => k_is)
    (case l_law_text_counts => k_is)
    (case c_law_text_counts => k_is)
    (case k_law_text_counts => k_is)
    (case a_law_rows_of_items => k_is)
    (case l_law_rows_of_items => k_is)
    (case c_law_rows_of_items => k_is)
    (case k_law_rows_of_items => k_is)
    (case a_law_boxes_left => k_is)
    (case l_law_boxes_left => k_is)
    (case c_law_boxes_left => k_is)
    (case k_law_boxes_left => k_is)
    (case a_law_printer => k_is)
    (case l_law_printer => k_is)
    (case c_law_printer => k_is)
    (case k_law_printer => k_is)
    (case a_law_prints => k_is)
    (case l_law_prints => k_is)
    (case c_law_prints => k_is)
    (case k_law_prints => k_is)
    (case a_law_some_tree => k_is)
    (case l_law_some_tree => k_is)
    (case c_law_some_tree => k_is)
    (case k_law_some_tree => k_is)
    (case a_law => k_is)
    (case l_law => k_is)
    (case c_law => k_is)
    (case k_law => k_is)
    (case zb_all => k_is)
    (case zb_bool => k_is)
    (case zb_dict => k_is)
    (case zb_enumerate => k_is)
    (case zb_int => k_is)
    (case zb_isinstance => k_is)
    (case zb_len => k_is)
    (case zb_list => k_is)
    (case zb_max => k_is)
    (case zb_min => k_is)
    (case zb_range => k_is)
    (case zb_reversed => k_is)
    (case zb_str => k_is)
    (case zb_sum => k_is)
    (case zb_tuple => k_is)
    (case zb_zip => k_is)
#print axioms PySem.Challenge.cw_boughkept_k42_printed_holds
