import PyProof.Rows.All
import Wide.All
import OpenK.AllK
import Wide.FinOn
import HandS.ForMost
import HandS.ForExc
import HandS.Wide
import HandS.IsInst
import HandS.ExcIs
import HandS.ExcInit
import HandS.Flow
import HandS.Zip
import HandS.TupAny
import HandS.TupLe
import HandS.ListItems
import HandS.Defaults
import HandS.Text
import HandS.SetKeys
import HandS.ExcField
import HandS.StrMore
import HandS.Walk
import HandS.Codes
import KE.KDictZip
import KE.KDictItemsList
import HandS.Iter
import KE.GoesMore
import PySem.Challenge.RW_boughkept_k06_woods_and_names
set_option pp.maxSteps 1200
set_option Elab.async false
set_option linter.all false
set_option maxRecDepth 100000
set_option maxHeartbeats 4000000
set_option Elab.async false
set_option linter.all false
set_option maxRecDepth 100000
set_option maxHeartbeats 4000000
/-! Bk1: readings that compute by themselves, over the hand layer. -/
namespace Bk
open PySem PySem.Spec PyProof.Rows L2

/-! ### heaps: what is kept -/
/-- every tracked object stands as it stood -/
def Ex (H H' : Hp) : Prop := ∀ a o, H a = some o → H' a = some o
/-- .. but what stands at l -/
def But (l : Addr) (H H' : Hp) : Prop := ∀ a o, a ≠ l → H a = some o → H' a = some o
/-- the tuples stand -/
def Tk (H H' : Hp) : Prop := ∀ a xs, H a = some (.tup xs) → H' a = some (.tup xs)
theorem Ex.refl (H : Hp) : Ex H H := fun _ _ h => h
theorem Ex.trans {H H1 H2 : Hp} (a : Ex H H1) (b : Ex H1 H2) : Ex H H2 := fun x o h => b x o (a x o h)
theorem Ex.new {H : Hp} {p : Addr} {o : HO} (h : H p = none) : Ex H (upd H p o) := fun a u e => by
  rw [upd_ne (ne_of_none e h)]
  exact e
theorem Ex.at_new {H H' : Hp} {p : Addr} {o : HO} (x : Ex H H') (h : H p = none) : Ex H (upd H' p o) := fun a u e => by
  rw [upd_ne (ne_of_none e h)]
  exact x a u e
theorem Ex.free {H H' : Hp} {p : Addr} (e : Ex H H') (h : H' p = none) : H p = none := by
  cases q : H p with
  | none => rfl
  | some o => rw [e p o q] at h; cases h
theorem Ex.but {H H' : Hp} (l : Addr) (e : Ex H H') : But l H H' := fun a o _ h => e a o h
theorem Ex.of_but {H H' : Hp} {l : Addr} (e : But l H H') (h : H l = none) : Ex H H' := fun a o q => e a o (ne_of_none q h) q
theorem But.refl (l : Addr) (H : Hp) : But l H H := fun _ _ _ h => h
theorem But.trans {l : Addr} {H H1 H2 : Hp} (a : But l H H1) (b : But l H1 H2) : But l H H2 := fun x o n h => b x o n (a x o n h)
theorem But.upd {l : Addr} {H H' : Hp} {o : HO} (a : But l H H') : But l H (upd H' l o) := fun x u n h => by
  rw [upd_ne n]
  exact a x u n h
theorem But.get {l a : Addr} {H H' : Hp} {o u : HO} (b : But l H H') (hl : H l = some u) (h : H a = some o) (d : o ≠ u) : H' a = some o := b a o (ne_of h hl d) h
theorem Ex.tk {H H' : Hp} (e : Ex H H') : Tk H H' := fun a xs h => e a _ h
theorem But.tk {l : Addr} {H H' : Hp} {u : HO} (b : But l H H') (hl : H l = some u) (d : ∀ xs, HO.tup xs ≠ u) : Tk H H' := fun a xs h => b.get hl h (d xs)
theorem But.tkl {l : Addr} {H H' : Hp} {ys : List V} (b : But l H H') (hl : H l = some (.lst ys)) : Tk H H' := b.tk hl fun _ z => nomatch z
theorem Tk.refl (H : Hp) : Tk H H := fun _ _ h => h
theorem Tk.trans {H H1 H2 : Hp} (a : Tk H H1) (b : Tk H1 H2) : Tk H H2 := fun x o h => b x o (a x o h)
theorem sqL {K : PySem.W.Frag} {H : Hp} {a : Addr} {xs : List V} (h : H a = some (.lst xs)) : SqL K H a xs := .inl (.inl h)
theorem sqT {K : PySem.W.Frag} {H : Hp} {a : Addr} {xs : List V} (h : H a = some (.tup xs)) : SqT K H a xs := .inl (.inl h)
theorem Ex.seqL {K : PySem.W.Frag} {H H' : Hp} {a : Addr} {xs : List V} (e : Ex H H') (h : SqL K H a xs) : SqL K H' a xs := by
  rcases h with (h | ⟨o, h⟩) | h
  · exact .inl (.inl (e _ _ h))
  · exact .inl (.inr ⟨o, e _ _ h⟩)
  · exact .inr h
theorem But.seqL {K : PySem.W.Frag} {l : Addr} {H H' : Hp} {a : Addr} {xs : List V} (e : But l H H') (n : a ≠ l) (h : SqL K H a xs) : SqL K H' a xs := by
  rcases h with (h | ⟨o, h⟩) | h
  · exact .inl (.inl (e _ _ n h))
  · exact .inl (.inr ⟨o, e _ _ n h⟩)
  · exact .inr h

/-! ### data: what a value stands for -/
inductive D where
  | non | bl (b : Bool) | int (i : Int) | str (s : Str) | tup (ds : List D) | lst (ds : List D)
mutual
def Rep (H : Hp) : D → V → Prop
  | .non, v => v = .non
  | .bl b, v => v = .bl b
  | .int i, v => v = .int i
  | .str s, v => v = .str s
  | .tup ds, v => ∃ a vs, v = .ref a ∧ H a = some (.tup vs) ∧ Reps H ds vs
  | .lst ds, v => ∃ a vs, v = .ref a ∧ H a = some (.lst vs) ∧ Reps H ds vs
def Reps (H : Hp) : List D → List V → Prop
  | [], vs => vs = []
  | d :: ds, vs => ∃ v r, vs = v :: r ∧ Rep H d v ∧ Reps H ds r
end
mutual
/-- tuples and flat things alone -/
def D.hard : D → Bool
  | .lst _ => false
  | .tup ds => D.hards ds
  | .non => true | .bl _ => true | .int _ => true | .str _ => true
def D.hards : List D → Bool
  | [] => true
  | d :: ds => d.hard && D.hards ds
end
mutual
def D.size : D → Nat
  | .tup ds => 1 + D.sizes ds
  | .lst ds => 1 + D.sizes ds
  | .non => 1 | .bl _ => 1 | .int _ => 1 | .str _ => 1
def D.sizes : List D → Nat
  | [] => 0
  | d :: ds => d.size + D.sizes ds
end
theorem D.size_pos (d : D) : 1 ≤ d.size := by cases d <;> simp only [D.size] <;> omega
mutual
theorem Rep.ex {H H' : Hp} (e : Ex H H') : ∀ {d : D} {v : V}, Rep H d v → Rep H' d v
  | .non, _, h => h
  | .bl _, _, h => h
  | .int _, _, h => h
  | .str _, _, h => h
  | .tup ds, _, h => by
    simp only [Rep] at h ⊢
    obtain ⟨a, vs, r, ha, hr⟩ := h
    exact ⟨a, vs, r, e _ _ ha, Reps.ex e hr⟩
  | .lst ds, _, h => by
    simp only [Rep] at h ⊢
    obtain ⟨a, vs, r, ha, hr⟩ := h
    exact ⟨a, vs, r, e _ _ ha, Reps.ex e hr⟩
theorem Reps.ex {H H' : Hp} (e : Ex H H') : ∀ {ds : List D} {vs : List V}, Reps H ds vs → Reps H' ds vs
  | [], _, h => h
  | d :: ds, _, h => by
    simp only [Reps] at h ⊢
    obtain ⟨v, r, x, h1, h2⟩ := h
    exact ⟨v, r, x, Rep.ex e h1, Reps.ex e h2⟩
end
mutual
theorem Rep.tk {H H' : Hp} (e : Tk H H') : ∀ {d : D} {v : V}, d.hard = true → Rep H d v → Rep H' d v
  | .non, _, _, h => h
  | .bl _, _, _, h => h
  | .int _, _, _, h => h
  | .str _, _, _, h => h
  | .lst _, _, z, _ => by simp [D.hard] at z
  | .tup ds, _, z, h => by
    simp only [D.hard] at z
    simp only [Rep] at h ⊢
    obtain ⟨a, vs, r, ha, hr⟩ := h
    exact ⟨a, vs, r, e _ _ ha, Reps.tk e z hr⟩
theorem Reps.tk {H H' : Hp} (e : Tk H H') : ∀ {ds : List D} {vs : List V}, D.hards ds = true → Reps H ds vs → Reps H' ds vs
  | [], _, _, h => h
  | d :: ds, _, z, h => by
    simp only [D.hards, Bool.and_eq_true] at z
    simp only [Reps] at h ⊢
    obtain ⟨v, r, x, h1, h2⟩ := h
    exact ⟨v, r, x, Rep.tk e z.1 h1, Reps.tk e z.2 h2⟩
end
theorem Reps.len {H : Hp} : ∀ {ds : List D} {vs : List V}, Reps H ds vs → vs.length = ds.length
  | [], _, h => by simp only [Reps] at h; rw [h]; rfl
  | d :: ds, _, h => by
    simp only [Reps] at h
    obtain ⟨v, r, x, _, h2⟩ := h
    rw [x, List.length_cons, List.length_cons, Reps.len h2]
theorem Reps.get {H : Hp} : ∀ {ds : List D} {vs : List V} {i : Nat} {v : V}, Reps H ds vs → vs[i]? = some v → ∃ d, ds[i]? = some d ∧ Rep H d v
  | [], _, i, v, h, e => by simp only [Reps] at h; rw [h] at e; simp at e
  | d :: ds, _, 0, v, h, e => by
    simp only [Reps] at h
    obtain ⟨u, r, x, h1, _⟩ := h
    rw [x] at e
    simp at e
    exact ⟨d, rfl, e ▸ h1⟩
  | d :: ds, _, i + 1, v, h, e => by
    simp only [Reps] at h
    obtain ⟨u, r, x, _, h2⟩ := h
    rw [x] at e
    obtain ⟨d', e', r'⟩ := Reps.get (i := i) h2 (by simpa using e)
    exact ⟨d', by simpa using e', r'⟩
theorem Reps.at {H : Hp} : ∀ {ds : List D} {vs : List V} {i : Nat} {d : D}, Reps H ds vs → ds[i]? = some d → ∃ v, vs[i]? = some v ∧ Rep H d v
  | [], _, i, d, h, e => by simp at e
  | d :: ds, _, 0, d', h, e => by
    simp only [Reps] at h
    obtain ⟨u, r, x, h1, _⟩ := h
    simp at e
    exact ⟨u, by rw [x]; rfl, e ▸ h1⟩
  | d :: ds, _, i + 1, d', h, e => by
    simp only [Reps] at h
    obtain ⟨u, r, x, _, h2⟩ := h
    obtain ⟨v', e', r'⟩ := Reps.at (i := i) h2 (by simpa using e)
    exact ⟨v', by rw [x]; simpa using e', r'⟩
theorem Reps.append {H : Hp} : ∀ {ds es : List D} {vs ws : List V}, Reps H ds vs → Reps H es ws → Reps H (ds ++ es) (vs ++ ws)
  | [], _, _, _, h, g => by simp only [Reps] at h; rw [h]; exact g
  | d :: ds, es, _, ws, h, g => by
    simp only [Reps] at h
    obtain ⟨v, r, x, h1, h2⟩ := h
    rw [x]
    simp only [List.cons_append, Reps]
    exact ⟨v, r ++ ws, rfl, h1, Reps.append h2 g⟩

/-! ### weaker readings -/
section
variable {X : Cx}
theorem pe_imp {e : Expr} {t t' : TE} (h : PE X e t) (w : ∀ σ H Q, t' σ H Q → t σ H Q) : PE X e t' := ⟨fun pins s σ H Q I q => h.run pins s σ H Q I (w σ H Q q)⟩
theorem pt_imp {e : Expr} {t t' : TT} (h : PT X e t) (w : ∀ σ H Q, t' σ H Q → t σ H Q) : PT X e t' := ⟨fun pins s σ H Q I q => h.run pins s σ H Q I (w σ H Q q)⟩
theorem pw_imp {e : Expr} {t t' : TT} (h : PW X e t) (w : ∀ σ H Q, t' σ H Q → t σ H Q) : PW X e t' := ⟨fun wh pins s σ H Q I q => h.run wh pins s σ H Q I (w σ H Q q)⟩
theorem ps_imp {e : Stmt} {t t' : TS} (h : PS X e t) (w : ∀ D σ H, t' D σ H → t D σ H) : PS X e t' := ⟨fun pins s σ H D I q => h.run pins s σ H D I (w D σ H q)⟩
theorem pi_imp {tg e : Expr} {t t' : TI} (h : PI X tg e t) (w : ∀ σ H R, t' σ H R → t σ H R) : PI X tg e t' := ⟨fun pins s σ H R I q => h.run pins s σ H R I (w σ H R q)⟩
theorem pi_or {tg e : Expr} {t t' : TI} (h : PI X tg e t) (h' : PI X tg e t') : PI X tg e (fun σ H R => t σ H R ∨ t' σ H R) := ⟨fun pins s σ H R I q => by
  rcases q with q | q
  · exact h.run pins s σ H R I q
  · exact h'.run pins s σ H R I q⟩
theorem pe_or {e : Expr} {t t' : TE} (h : PE X e t) (h' : PE X e t') : PE X e (fun σ H R => t σ H R ∨ t' σ H R) := ⟨fun pins s σ H R I q => by
  rcases q with q | q
  · exact h.run pins s σ H R I q
  · exact h'.run pins s σ H R I q⟩

/-- the name that stands in the i-th slot -/
def uV (i : Nat) : TE := fun σ H Q => match σ[i]? with
  | some (some v) => Q v H
  | _ => False
theorem uv (i : Nat) {x : Str} {pos : Pos} (hN : X.N[i]? = some x := by rfl) (hv : Vis X.env.scope x := by first | exact Or.inl rfl | exact Or.inr (Or.inl rfl) | exact Or.inr (Or.inr rfl))
    (hd : (x == ("__debug__" : Str)) = false := by decide) (hcd : (x == ("__classdict__" : Str)) = false := by decide) : PE X (.Name x pos) (uV i) :=
  pe_imp (pv i hN hv hd hcd) fun σ H Q h => by
    unfold uV at h
    split at h
    · exact ⟨_, by assumption, h⟩
    · exact h.elim
theorem g_var {σ : L2.St} {i : Nat} {v : V} {H : Hp} {Q : VK} (e : σ[i]? = some (some v)) (q : Q v H) : uV i σ H Q := by
  unfold uV
  rw [e]
  exact q

/-- a value's truth -/
def uTru (K : PySem.W.Frag) (x : V) (H : Hp) (Q : Bool → Hp → Prop) : Prop := match x with
  | .bl k => Q k H
  | .int i => Q (i != 0) H
  | .non => Q false H
  | .str y => y.length ≤ sizeLine ∧ Q ((y.length : Int) != 0) H
  | .ref p => ∃ k, TruV K (.ref p) H k ∧ Q k H
  | _ => False
theorem uTru_of {K : PySem.W.Frag} {x : V} {H : Hp} {Q : Bool → Hp → Prop} (h : uTru K x H Q) : ∃ k, TruV K x H k ∧ Q k H := by
  unfold uTru at h
  split at h
  · exact ⟨_, rfl, h⟩
  · exact ⟨_, rfl, h⟩
  · exact ⟨_, rfl, h⟩
  · exact ⟨_, ⟨h.1, rfl⟩, h.2⟩
  · exact h
  · exact h.elim
/-- a value as a test -/
def uT (K : PySem.W.Frag) (te : TE) : TT := fun σ H Q => te σ H fun x H1 => uTru K x H1 Q
theorem ut {e : Expr} {te : TE} (h : PE X e te) (he : ∀ whole, isTrue e X.env whole = (do let v ← whole; standAt e.pos; holding [v] (truthy v)) := by intro _; rfl) : PT X e (uT X.K te) := by
  refine ⟨fun pins s σ H Q I q => ?_⟩
  refine isTrue_plain (thn (h.run pins s σ H _ I q) fun v s1 z => ?_) (he _)
  obtain ⟨x, H1, I1, r1, q1⟩ := z
  exact tru_ok pins s1 σ H1 x v Q I1 r1 (uTru_of q1)

/-! ### operators -/
def uAdd (K : PySem.W.Frag) : R2 := fun x y H Q => match x, y with
  | .int i, .int j => Q (.int (i + j)) H
  | .str a, .str b => a.length + b.length ≤ sizeLine ∧ Q (.str (a ++ b)) H
  | .ref p, .ref q => rCat (.ref p) (.ref q) H Q ∨ rCatA K (.ref p) (.ref q) H Q
  | _, _ => False
theorem uo_add : OpR X (binaryOp .Add) (uAdd X.K) := by
  intro pins s σ H x y v u Q I rx ry h
  unfold uAdd at h
  split at h
  · exact op_add pins s σ H _ _ v u Q I rx ry ⟨_, _, rfl, rfl, h⟩
  · exact op_add_str pins s σ H _ _ v u Q I rx ry ⟨_, _, rfl, rfl, h⟩
  · rcases h with h | h
    · exact op_cat pins s σ H _ _ v u Q I rx ry h
    · exact op_catA pins s σ H _ _ v u Q I rx ry h
  · exact h.elim
/-- two ints in -/
def uI (C : Int → Int → Prop) (g : Int → Int → V) : R2 := fun x y H Q => match x, y with
  | .int i, .int j => C i j ∧ Q (g i j) H
  | _, _ => False
def uI0 (g : Int → Int → V) : R2 := fun x y H Q => match x, y with
  | .int i, .int j => Q (g i j) H
  | _, _ => False
theorem ui_of {f : Value → Value → Sem Value} {C : Int → Int → Prop} {g : Int → Int → V} (h : OpR X f (rI C g)) : OpR X f (uI C g) := by
  intro pins s σ H x y v u Q I rx ry q
  unfold uI at q
  split at q
  · exact h pins s σ H _ _ v u Q I rx ry ⟨_, _, rfl, rfl, q.1, q.2⟩
  · exact q.elim
theorem ui0_of {f : Value → Value → Sem Value} {g : Int → Int → V} (h : OpR X f (rI0 g)) : OpR X f (uI0 g) := by
  intro pins s σ H x y v u Q I rx ry q
  unfold uI0 at q
  split at q
  · exact h pins s σ H _ _ v u Q I rx ry ⟨_, _, rfl, rfl, q⟩
  · exact q.elim
abbrev uSub : R2 := uI0 fun i j => .int (i - j)
theorem uo_sub : OpR X (binaryOp .Sub) uSub := ui0_of op_sub
def CMm (i j : Int) : Prop := CMul i j ∨ CMulW i j
abbrev uMul : R2 := uI CMm fun i j => .int (i * j)
theorem uo_mul : OpR X (binaryOp .Mult) uMul := by
  refine ui_of (opI fun _ _ _ _ _ _ _ hc q => ?_)
  rcases hc with hc | hc
  · exact mul_int q hc.ok
  · exact mul_int q hc.ok
theorem mulL {i j : Int} (h : i.natAbs.log2 < 1000) (h2 : j.natAbs.log2 < 900000) : CMulW i j := by
  show _ < _
  omega
/-- // by anything but nought below 2 ^ 9000 -/
def CFd (_ j : Int) : Prop := j ≠ 0 ∧ j.natAbs.log2 < 9000
theorem op_fd : OpR X (binaryOp .FloorDiv) (rI CFd fun i j => .int (i.fdiv j)) := opI fun i j _ _ _ _ _ hc q => floordiv_int hc.1 q (.inl (PyProof.noPylong_of_log2 hc.2))
abbrev uFd : R2 := uI CFd fun i j => .int (i.fdiv j)
theorem uo_fd : OpR X (binaryOp .FloorDiv) uFd := ui_of op_fd
abbrev uMod : R2 := uI (fun _ j => j ≠ 0) fun i j => .int (i.fmod j)
theorem uo_mod : OpR X (binaryOp .Mod) uMod := ui_of op_modN
abbrev uPow : R2 := uI CPow fun i j => .int (i ^ j.toNat)
theorem uo_pow : OpR X (binaryOp .Pow) uPow := ui_of op_pow
abbrev uLt : R2 := uI0 fun i j => .bl (decide (i < j))
theorem uo_lt : OpR X (compareOp .Lt) uLt := ui0_of op_lt
abbrev uLe : R2 := uI0 fun i j => .bl (decide (i ≤ j))
theorem uo_le : OpR X (compareOp .LtE) uLe := ui0_of op_le
abbrev uGt : R2 := uI0 fun i j => .bl (decide (j < i))
theorem uo_gt : OpR X (compareOp .Gt) uGt := ui0_of op_gt
abbrev uGe : R2 := uI0 fun i j => .bl (decide (j ≤ i))
theorem uo_ge : OpR X (compareOp .GtE) uGe := ui0_of op_ge
def uNeg : V → Hp → VK → Prop := fun x H Q => match x with
  | .int i => Q (.int (-i)) H
  | _ => False
theorem uu_neg : UnR X (unaryOp .USub) uNeg := by
  intro pins s σ H x v Q I rx q
  unfold uNeg at q
  split at q
  · exact un_neg pins s σ H _ v Q I rx ⟨_, rfl, q⟩
  · exact q.elim
/-- x is None, x is not None (y is the None) -/
def uIsN : R2 := fun x y H Q => y = .non ∧ Q (.bl (decide (x = .non))) H
def uNotN : R2 := fun x y H Q => y = .non ∧ Q (.bl (!decide (x = .non))) H
theorem uo_isN : OpR X (compareOp .Is) uIsN := op_isN
theorem uo_notN : OpR X (compareOp .IsNot) uNotN := op_notN

/-! ### len, subscripts -/
def LenR (K : PySem.W.Frag) (H : Hp) (p : Addr) (n : Nat) : Prop := (∃ ys, (SqL K H p ys ∨ SqT K H p ys) ∧ n = ys.length) ∨ ∃ kvs, H p = some (.dK kvs) ∧ n = kvs.length
def uLen (K : PySem.W.Frag) : List V → Hp → VK → Prop := fun xs H Q => match xs with
  | [.str z] => z.length ≤ sizeLine ∧ Q (.int z.length) H
  | [.ref p] => ∃ n : Nat, LenR K H p n ∧ Q (.int n) H
  | _ => False
theorem uk_len : CallR X (.builtin "len") (uLen X.K) := by
  intro pins s σ H xs us Q I r h
  unfold uLen at h
  split at h
  · exact call_len_str pins s σ H _ us Q I r ⟨_, rfl, h.1, h.2⟩
  · obtain ⟨n, h, q⟩ := h
    rcases h with ⟨ys, h, e⟩ | ⟨kvs, h, e⟩
    · subst e
      exact call_len_seq pins s σ H _ us Q I r ⟨_, _, rfl, h, q⟩
    · subst e
      exact call_lenD pins s σ H _ us Q I r ⟨_, _, rfl, h, q⟩
  · exact h.elim
def uIx (K : PySem.W.Frag) : R2 := fun x y H Q => match x, y with
  | .ref p, .int i => ∃ xs v, (SqL K H p xs ∨ SqT K H p xs) ∧ atI xs i = some v ∧ Q v H
  | .str z, .int i => z.length ≤ sizeLine ∧ ∃ c, atI z.cps.toList i = some c ∧ Q (.str ⟨#[c]⟩) H
  | _, _ => False
theorem ux_seq : IxR X (uIx X.K) := by
  intro value slice pins s σ H x y v u Q I rx ry q hs
  unfold uIx at q
  split at q
  · obtain ⟨xs, w, hq, a, q⟩ := q
    refine ix_seq value slice pins s σ H _ _ v u Q I rx ry ?_ hs
    rcases hq with hq | hq
    · exact .inl ⟨_, xs, _, w, rfl, rfl, hq, a, q⟩
    · exact .inr (.inl ⟨_, xs, _, w, rfl, rfl, hq, a, q⟩)
  · obtain ⟨z, c, a, q⟩ := q
    exact ix_seq value slice pins s σ H _ _ v u Q I rx ry (.inr (.inr ⟨_, _, c, rfl, rfl, z, a, q⟩)) hs
  · exact q.elim

/-! ### what a for walks: a list or a tuple -/
def uSeq (K : PySem.W.Frag) (td : TE) : TI := fun σ H R => iList K td σ H R ∨ iTup K td σ H R ∨ iStr td σ H R
theorem ui_seq {tg e : Expr} {td : TE} (h : PE X e td) : PI X tg e (uSeq X.K td) := pi_or (pi_list h) (pi_or (pi_tup h) (pi_str h))
end
end Bk

set_option Elab.async false
set_option linter.all false
set_option maxRecDepth 100000
set_option maxHeartbeats 4000000
/-! Bk2: own errors over any built-in base, made by their own __init__. -/
namespace Bk
open PySem PySem.Spec PyProof.Rows L2
/-- what the written part says of an own error's class: newId, bmB of its built-in base -/
structure OexB (K : PySem.W.Frag) (C : Addr) (newId : String) (bmB : List Value) : Prop where
  cls : ∃ nm q N bs bm sn sub ab col dd k0 k1 k2 k3 k5, K.lookup C = some (excClassObj nm q C N bs bm true sn sub ab col dd k0 k1 k2 k3 k5 newId) ∧ ∀ Y : String, bm.contains (.type Y) = bmB.contains (.type Y)
  exC : PySem.W.subIn K (.ref C) (.type "BaseException") = some true
  tyC : PySem.W.typeIn K (.ref C) = some (.type "type")
  kC : PySem.W.keepIn K (.ref C) = true
section
variable {X : Cx} {pins : List (Addr × Obj)} {σ : L2.St} {H : Hp} {s : Shared} {a C : Addr} {B newId initId : String} {bmB : List Value}
/-- B.__init__(self, ..) over an error that has no dict as yet -/
theorem ginit_ok {A : Around} {E : Value → Shared → Prop} {us : List Value} {Q : Value → Shared → Prop} (F : ExcBaseFacts B newId initId bmB) (T : OexB X.K C newId bmB) (I : Inv X pins σ H s) (e : H a = some (exo a C none)) (hl : us.length ≤ sizeLine)
    (h : ∀ s', Inv X pins σ H s' → Q .none s') : wpAny (model X.prog X.w) A (call (.builtin initId) (.ref a :: us)) Q E s := by
  obtain ⟨nm, q, N, bs, bm, sn, sub, ab, col, dd, k0, k1, k2, k3, k5, hC, hT⟩ := T.cls
  obtain ⟨t1, ho⟩ := exo_at I.hok e
  obtain ⟨hp, g, d, t, os⟩ := s
  refine wpAny_call (PySem.HandSPX.init_base F hT (I.kIn _ _ hC) ho hl fun h' t2 k hx => ?_)
  have J := I.write (t' := t) (x := a) (e := a) (o := exo a C none) (by rw [e]; exact True.intro) (.inl rfl) k ⟨_, hx⟩ (exo_ok hx)
  have eu : upd H a (exo a C none) = H := funext fun b => by
    by_cases hb : b = a
    · rw [hb, upd_same, e]
    · rw [upd_ne hb]
  rw [eu] at J
  exact h _ J
/-- T.__init__(self, ..), T a built-in class of errors, or an own one that has it from there -/
def uXIk (K : PySem.W.Frag) (newId : String) (bmB : List Value) : List V → Hp → VK → Prop := fun vs H1 Q => match vs with
  | .ref a :: ws => ∃ C, ws.length ≤ 1000 ∧ OexB K C newId bmB ∧ H1 a = some (exo a C none) ∧ Q .non H1
  | _ => False
def uXI (K : PySem.W.Frag) (newId : String) (bmB : List Value) (ta : TA) : TE := fun σ H Q => ta σ H fun vs H1 => uXIk K newId bmB vs H1 Q
theorem uXI_end {F0 : ExcBaseFacts B newId initId bmB} {us : List Value} {vs : List V} {Q : VK} (I : Inv X pins σ H s) (r : Vals vs us)
    (h : uXIk X.K newId bmB vs H Q) :
    wpAny (model X.prog X.w) X.A (call (.builtin initId) us) (EP X pins σ Q) X.xe s := by
  unfold uXIk at h
  split at h
  · obtain ⟨C, hl, T, ea, q⟩ := h
    cases r with
    | @cons _ u0 _ ur ra rw' =>
      obtain rfl : u0 = Value.ref _ := ra
      have hlen : ur.length ≤ sizeLine := by
        rw [← Paired.length rw', sizeLine_eq]
        omega
      exact ginit_ok F0 T I ea hlen fun s' J => ⟨.non, H, J, rfl, q⟩
  · exact h.elim
variable {e : Expr} {es : List Expr} {ta : TA} {p1 p2 pos : Pos} {x : Str}
theorem pe_xinitB {T : String} {pl : Sem Bool} (F : ExcBaseFacts B newId initId bmB) (ty : typeOf (.type T) = pure (.type "type")) (ns : Manifest.isStub T = false) (hg : Gl X x) (hm : X.mg x = none) (hv : bootBuiltins x = some (.type T))
    (vV : PySem.W.findCls X.K (.type T) (.type "type") "__init__" = some (.val (.builtin initId))) (hh : PySem.W.handedIn (.builtin initId) = true) (ha : PA X (e :: es) ta) (hn : x ≠ "__name__" := by decide) (hd : (x == ("__debug__" : Str)) = false := by decide)
    (hc : eval (.Call (.Attribute (.Name x p1) "__init__" p2) (e :: es) [] pos) X.env = (do
      let ov ← eval (.Name x p1) X.env
      standAt p2.atName
      let (f, first) ← holding [ov] (getMethod ov "__init__" pl)
      callWith pos f first (backTo pos (starEach (e :: es) X.env)) (backToKw pos (keywordEach [] X.env))) := by rfl)
    (he : starEach (e :: es) X.env = (false, eval e X.env) :: starEach es X.env := by rfl) (hpl : (backTo pos (starEach es X.env)).any (·.1) = false := by rfl) :
    PE X (.Call (.Attribute (.Name x p1) "__init__" p2) (e :: es) [] pos) (uXI X.K newId bmB ta) := by
  refine ⟨fun pins s σ H Q I h => ?_⟩
  refine PySem.W.methodCall_KW (ld_blt I hg hm hv ?_ hn hd) hc
  obtain ⟨m, fr⟩ := I.fr
  refine PySem.W.method_type fr I.ok.mod.kin ty ns vV hh ?_
  show wpAny _ _ (callWith pos (Value.builtin initId) [] (backTo pos (starEach (e :: es) X.env)) []) _ _ _
  refine PyProof.Rows.callWith_method1 (thn (ha.run pos pins _ σ H _ (I.tok _) h) fun us s1 z => ?_) he hpl
  obtain ⟨vs, H1, I1, r1, q⟩ := z
  exact uXI_end (F0 := F) I1 r1 q
/-- how an own class hands out its base's __init__ -/
structure XiC (K : PySem.W.Frag) (D : Addr) (initId : String) : Prop where
  ga : PySem.W.specialIn K (.ref D) "__getattribute__" = some (some (.builtin "type.__getattribute__"))
  rd : PySem.W.readsIn K D (.type "type") = true
  at_ : PySem.W.findCls K (.ref D) (.type "type") "__init__" = some (.val (.builtin initId))
theorem pe_xinitO {D : Addr} {pl : Sem Bool} (F : ExcBaseFacts B newId initId bmB) (k : XiC X.K D initId) (hh : PySem.W.handedIn (.builtin initId) = true) (hg : Gl X x) (hm : X.mg x = some (.ref D)) (ha : PA X (e :: es) ta) (hd : (x == ("__debug__" : Str)) = false := by decide)
    (hc : eval (.Call (.Attribute (.Name x p1) "__init__" p2) (e :: es) [] pos) X.env = (do
      let ov ← eval (.Name x p1) X.env
      standAt p2.atName
      let (f, first) ← holding [ov] (getMethod ov "__init__" pl)
      callWith pos f first (backTo pos (starEach (e :: es) X.env)) (backToKw pos (keywordEach [] X.env))) := by rfl)
    (he : starEach (e :: es) X.env = (false, eval e X.env) :: starEach es X.env := by rfl) (hpl : (backTo pos (starEach es X.env)).any (·.1) = false := by rfl) :
    PE X (.Call (.Attribute (.Name x p1) "__init__" p2) (e :: es) [] pos) (uXI X.K newId bmB ta) := by
  refine ⟨fun pins s σ H Q I h => ?_⟩
  refine PySem.W.methodCall_KW (ld_glob I hg hm ?_ hd) hc
  refine PySem.W.method_cls I.kIn k.ga (PySem.W.cls_value I.kIn k.rd k.at_ hh ?_)
  show wpAny _ _ (callWith pos (Value.builtin initId) [] (backTo pos (starEach (e :: es) X.env)) []) _ _ _
  refine PyProof.Rows.callWith_method1 (thn (ha.run pos pins _ σ H _ (I.tok _) h) fun us s1 z => ?_) he hpl
  obtain ⟨vs, H1, I1, r1, q⟩ := z
  exact uXI_end (F0 := F) I1 r1 q

/-- the end of C(..) where no field was stored: the error is let go -/
theorem gone_end {H1 : Hp} {hp hp2 h2 : Heap} {g1 g2 : Array GenState} {d1 d2 : Drawn} {t1 t2 : Nat} {os1 os2 : OsState} {Q : XK} (T : Raises X (.ref C)) (I1 : Inv X pins σ H1 ⟨hp, g1, d1, t1, os1⟩)
    (ha : hp.objs.size ≤ a) (k : ∀ b o, hp.get? b = some o → hp2.get? b = some o) (un : Un (frs X.stack) [] (upd H1 a (exo a C none)) (upd H1 a (exo a C none)) hp2 h2) (hok : HOk X.prog X.w (upd H1 a (exo a C none)) h2) (ho : os2 = os1) (hb : AllBare g2)
    (q : Q (.ref C) none H1) : MkP X pins σ Q (.ref a) ⟨h2, g2, d2, t2, os2⟩ := by
  have ea : upd H1 a (exo a C none) a = some (exo a C none) := upd_same
  obtain ⟨t0, hoe⟩ := exo_at hok ea
  have hn : H1 a = none := I1.hok.fresh ha
  obtain ⟨G, g1', g2'⟩ := restrict h2 fun b => decide (b ≠ a)
  have gk : ∀ b, b ≠ a → G.get? b = h2.get? b := fun b hb => g1' b (decide_eq_true hb)
  have ge : G.get? a = none := g2' a (by simp)
  have nha : ∀ {b : Addr} {o : Obj}, hp.get? b = some o → b ≠ a := fun {b o} z => Nat.ne_of_lt (Nat.lt_of_lt_of_le (Heap.lt_size z) ha)
  have up : ∀ {b : Addr}, b ≠ a → H1 b = none → upd H1 a (exo a C none) b = none := fun {b} hb n => by rw [upd_ne hb]; exact n
  have U : Un (frs X.stack) [] H1 H1 hp G := {
    keep := fun b o z n hf hx => (gk b (nha z)).trans (un.keep b o (k b o z) (up (nha z) n) hf hx)
    slot := fun b o z n hf hx => by
      rw [gk b (nha z)]
      exact un.slot b o (k b o z) (up (nha z) n) hf hx
    free := fun b o z n hx => n
    there := fun b o z hx => by
      rw [gk b (nha z)]
      exact un.there b o (k b o z) hx
    tups := fun b xs z => z
    frzs := fun b o v z => z
    tbls := fun b ps z => ⟨#[], by rw [z]; simp⟩ }
  have hok3 : HOk X.prog X.w H1 G := fun b o z => by
    have hba : b ≠ a := ne_of_none z hn
    have z2 : upd H1 a (exo a C none) b = some o := by rw [upd_ne hba]; exact z
    refine (hok b o z2).stay (fun c v hc y => ?_) (fun c hc => ?_) (fun c xs hc => ?_)
    · have hca : c ≠ a := by
        rcases hc with hc | hc
        · rw [hc]; exact hba
        · exact at_ne ea hc exo_own
      rw [gk c hca]
      exact y
    · rw [upd_ne (at_ne ea hc exo_own)] at hc
      exact hc
    · rw [upd_ne (at_ne ea hc exo_tup)] at hc
      exact hc
  have J : Inv X pins σ H1 ⟨G, g2, d2, t2, os2⟩ := I1.call' (ch := []) ho U hok3 hb (fun b z => absurd z (by simp))
  refine ⟨a, _, _, ⟨G, g2, d2, t2, os2⟩, _, .ref C, none, rfl, J, fun b o z => ?_, ge, hoe, ⟨rfl, rfl⟩, rfl, rfl, hn, rfl, hb, T, q⟩
  by_cases hba : b = a
  · have z' : G.get? b = some o := z
    rw [hba, ge] at z'
    cases z'
  · exact (gk b hba).symm.trans z
/-- C(): its own __init__ keeps sp and stores nothing -/
def uMk0 (C : Addr) (sp : Sp) : L2.St → Hp → XK → Prop := fun σ H Q => ∀ a, H a = none → sp [.ref a] (upd H a (exo a C none)) (fun v H2 => v = .non ∧ H2 = upd H a (exo a C none) ∧ Q (.ref C) none H) (fun _ _ _ => False)
theorem pmk_x0 {CX : CXT} {p : Pos} {fI : Addr} {k : Nat} {fd : FuncData} {ps : List Str} {sp : Sp} (F : ExcBaseFacts B newId initId bmB) (T : OexB X.K C newId bmB) (iC : PySem.W.findIn X.K (.ref C) "__init__" = some (some (.ref fI))) (tI : PySem.W.typeIn X.K (.ref fI) = some (.type "function"))
    (F1 : FnOk X.prog X.w X.K X.mg X.base CX k fI fd ps sp) (hr : Room (k + 1) X.A) (hb : Binds X.K fd ps []) (hx : Passes CX X (fun _ _ _ => False)) (hm : X.mg x = some (.ref C)) (hg : Gl X x)
    (hdb : (x == ("__debug__" : Str)) = false := by decide) : PMk X (.Call (.Name x p) [] [] pos) (uMk0 C sp) := by
  intro pins s σ H Q I h
  obtain ⟨nm, q, N, bs, bm, sn, sub, ab, col, dd, k0, k1, k2, k3, k5, hC, hT⟩ := T.cls
  refine wpAny_Call_Name_kw (ld_glob I hg hm ?_ hdb)
  refine PySem.W.callWith_K0 I.kIn T.kC ?_
  obtain ⟨hp, g, dr, tk, os⟩ := s
  have hsz : hp.objs.size ≤ hp.objs.size + 1 := Nat.le_succ _
  have hn : H (hp.objs.size + 1) = none := I.hok.fresh hsz
  have hq := h (hp.objs.size + 1) hn
  have kk : ∀ b o, hp.get? b = some o → ((hp.push (PySem.W.kdv_tup [])).push (PySem.HandSPX.excO C hp.objs.size)).get? b = some o := fun b o e => Heap.get?_push_of_some _ (Heap.get?_push_of_some _ e)
  have hget : ((hp.push (PySem.W.kdv_tup [])).push (PySem.HandSPX.excO C hp.objs.size)).get? (hp.objs.size + 1) = some (PySem.HandSPX.excO C hp.objs.size) := by heap_get
  have I2 : Inv X pins σ (upd H (hp.objs.size + 1) (exo (hp.objs.size + 1) C none)) ⟨(hp.push (PySem.W.kdv_tup [])).push (PySem.HandSPX.excO C hp.objs.size), g, dr, tk, os⟩ :=
    I.laid (t' := tk) (a := hp.objs.size + 1) (o := exo (hp.objs.size + 1) C none) (h' := (hp.push (PySem.W.kdv_tup [])).push (PySem.HandSPX.excO C hp.objs.size)) kk hsz (exo_ok hget)
  have r2 : Vals [V.ref (hp.objs.size + 1)] [Value.ref (hp.objs.size + 1)] := .cons rfl .nil
  have hl : ([Value.ref (hp.objs.size + 1)] ++ []).length = ps.length := (F1.len _ _ _ _ hq).symm.symm
  refine wpAny_call (PySem.HandSPX.call_own F hT (I.kIn _ _ hC) (PySem.W.looks_findIn I.kIn iC) (fun self => PySem.W.bind_fn I.kIn self tI) (Nat.zero_le _)
    (codeAny_mono (F1.run _ X.stack _ _ ⟨[Value.ref (hp.objs.size + 1)], []⟩ [Value.ref (hp.objs.size + 1)] _ _ (fun _ _ _ => False) (hr.make C [] []) (I2.env0.make C [] []) (hb _ [Value.ref (hp.objs.size + 1)] I2.kIn hl) r2 hq) fun r s' hq' => ?_))
  cases r with
  | error er => exact hx pins σ _ _ er s' I2 hq'
  | ok fl =>
    cases fl with
    | ret u =>
      obtain ⟨v, H2, os2, bare2, un2, hok2, rv, ev, eH, q2⟩ := hq'
      subst ev
      subst eH
      obtain ⟨h2, g2, d2, t2, os'⟩ := s'
      exact ⟨rv, gone_end (raises_own T.exC T.tyC) I hsz kk un2 hok2 os2 bare2 q2⟩
    | next => exact False.elim hq'
    | brk => exact False.elim hq'
    | cont => exact False.elim hq'
end
end Bk

set_option Elab.async false
set_option linter.all false
set_option maxRecDepth 100000
set_option maxHeartbeats 4000000
/-! Bk3: list(zip(a, b)) of two tuples or two lists. -/
namespace Bk
open PySem PySem.Spec PyProof.Rows L2
section
variable {prog : Program} {w : World} {A : Around} {E : Value → Shared → Prop} {s : Shared}
/-- k: two tuples, else two lists: an iterator over xs at place i -/
def SIt (h : Heap) (k : Bool) (it l : Addr) (i : Nat) (xs : Array Value) : Prop := match k with
  | true => h.IsTupleIter it l i ∧ h.IsTuple l xs
  | false => h.IsListIter it l i ∧ h.IsList l xs
theorem SIt.keep {h h' : Heap} {k : Bool} {it l : Addr} {i : Nat} {xs : Array Value} (x : SIt h k it l i xs) (ki : ∀ o, h.get? it = some o → h'.get? it = some o) (kl : ∀ o, h.get? l = some o → h'.get? l = some o) : SIt h' k it l i xs := by
  cases k with
  | true =>
    obtain ⟨⟨o, e1, e2⟩, ⟨o', f1, f2⟩⟩ := x
    exact ⟨⟨o, ki o e1, e2⟩, ⟨o', kl o' f1, f2⟩⟩
  | false =>
    obtain ⟨⟨o, e1, e2⟩, ⟨o', f1, f2⟩⟩ := x
    exact ⟨⟨o, ki o e1, e2⟩, ⟨o', kl o' f1, f2⟩⟩
theorem SIt.step {h h' : Heap} {k : Bool} {it l : Addr} {i : Nat} {xs : Array Value} (x : SIt h k it l i xs) (hn : l ≠ it) (ki : match k with | true => h'.IsTupleIter it l (i + 1) | false => h'.IsListIter it l (i + 1)) (kl : Heap.SameBut it h h') : SIt h' k it l (i + 1) xs := by
  cases k with
  | true =>
    obtain ⟨_, ⟨o', f1, f2⟩⟩ := x
    exact ⟨ki, ⟨o', kl.extBut _ _ hn f1, f2⟩⟩
  | false =>
    obtain ⟨_, ⟨o', f1, f2⟩⟩ := x
    exact ⟨ki, ⟨o', kl.extBut _ _ hn f1, f2⟩⟩
theorem sit_item {k : Bool} {it l : Addr} {i : Nat} {xs : Array Value} {x : Value} {Q : Value → Shared → Prop} (hit : SIt s.heap k it l i xs) (hn : l ≠ it) (hx : xs[i]? = some x)
    (hQ : ∀ h', SIt h' k it l (i + 1) xs → Heap.SameBut it s.heap h' → Q x { s with heap := h' }) : wpAny (model prog w) A (Builtin.SmallTypes.nextOf (.ref it)) Q E s := by
  cases k with
  | true => exact RZ.nextOf_tuple_item hit.1 hit.2 hx fun h' a b => hQ h' (hit.step hn a b) b
  | false => exact wpAny_nextOf_list_item hit.1 hit.2 hx fun h' a b => hQ h' (hit.step hn a b) b
theorem sit_end {k : Bool} {it l : Addr} {i : Nat} {xs : Array Value} {Q : Value → Shared → Prop} (hh : A.handled = none) (hit : SIt s.heap k it l i xs) (hx : xs[i]? = none)
    (hE : ∀ h' e, Heap.ExtBut it s.heap h' → (∃ o, h'.get? e = some o ∧ o.cls = .type "StopIteration") → E (.ref e) { s with heap := h' }) : wpAny (model prog w) A (Builtin.SmallTypes.nextOf (.ref it)) Q E s := by
  cases k with
  | true => exact RZ.nextOf_tuple_end hh hit.1 hit.2 hx hE
  | false => exact wpAny_nextOf_list_end hh hit.1 hit.2 hx hE

/-- one turn while the tuple given out before is still there -/
theorem held_item {k : Bool} {z TI TO T i1 i2 l1 l2 : Addr} {f : Bool} {oT : Obj} {i : Nat} {xs ys : Array Value} {x y : Value} {Q : Value → Shared → Prop} (D : ZipApart z TI TO i1 i2 l1 l2)
    (hz : IsZipHeld s.heap z TI TO T f) (hT : s.heap.get? T = some oT) (hTI : IsPair s.heap TI (.ref i1) (.ref i2)) (h1 : SIt s.heap k i1 l1 i xs) (h2 : SIt s.heap k i2 l2 i ys) (hx : xs[i]? = some x) (hy : ys[i]? = some y)
    (hQ : ∀ h', IsZipHeld h' z TI TO T true → SIt h' k i1 l1 (i + 1) xs → SIt h' k i2 l2 (i + 1) ys → IsPair h' s.heap.objs.size x y → h'.objs.size = s.heap.objs.size + 1 →
      (∀ c o, c ≠ z → c ≠ i1 → c ≠ i2 → s.heap.get? c = some o → h'.get? c = some o) → Q (.ref s.heap.objs.size) { s with heap := h' }) :
    wpAny (model prog w) A (Builtin.«zip.__next__» ⟨[.ref z], []⟩) (fun fin s' => ∃ v, fin = .done (.ret v) ∧ Q v s') E s := by
  show wpAny _ _ (field (.ref z) 2 >>= _) _ _ _
  refine wpAny_bind (wpAny_field hz rfl (x := .bool false) rfl ?_)
  show wpAny _ _ (field (.ref z) 3 >>= _) _ _ _
  refine wpAny_bind (wpAny_field hz rfl (x := .ref TI) rfl ?_)
  refine wpAny_bind (wpAny_seqItems hTI rfl ?_)
  show wpAny _ _ (Builtin.SmallTypes.ownedTupleIsFree (.ref z) >>= _) _ _ _
  refine wpAny_bind (wpAny_tupleHeld_zip hz hT fun g1 z1 b1 => ?_)
  simp only [Bool.false_eq_true, if_false]
  refine wpAny_bind ?_
  rw [← Array.forIn_toList]
  simp only [List.forIn_cons, List.forIn_nil]
  refine wpAny_bind (wpAny_bind (wpAny_holding ?_))
  show wpAny _ _ (Builtin.SmallTypes.nextOf (.ref i1) >>= _) _ _ _
  have p1 : SIt g1 k i1 l1 i xs := h1.keep (fun o e => b1.extBut _ _ D.i1z e) fun o e => b1.extBut _ _ D.l1z e
  refine wpAny_bind (sit_item (s := { s with heap := g1 }) p1 D.l1i1 hx fun g2 q1 b2 => wpAny_pure ?_)
  refine wpAny_pure ?_
  refine wpAny_bind (wpAny_bind (wpAny_holding ?_))
  show wpAny _ _ (Builtin.SmallTypes.nextOf (.ref i2) >>= _) _ _ _
  have p2 : SIt g2 k i2 l2 i ys := (h2.keep (fun o e => b1.extBut _ _ D.i2z e) fun o e => b1.extBut _ _ D.l2z e).keep (fun o e => b2.extBut _ _ D.i12.symm e) fun o e => b2.extBut _ _ D.l2i1 e
  refine wpAny_bind (sit_item (s := { s with heap := g2 }) p2 D.l2i2 hy fun g3 q2 b3 => wpAny_pure ?_)
  refine wpAny_pure (wpAny_pure ?_)
  show wpAny _ _ (newTuple [x, y] >>= _) _ _ _
  refine wpAny_bind (wpAny_newTuple ?_)
  have hsz : g3.objs.size = s.heap.objs.size := by rw [b3.1, b2.1, b1.1]
  have z3 : IsZipHeld g3 z TI TO T true := b3.extBut _ _ D.i2z.symm (b2.extBut _ _ D.i1z.symm z1)
  have hk : ∀ c o, c ≠ z → c ≠ i1 → c ≠ i2 → s.heap.get? c = some o → g3.get? c = some o := fun c o c1 c2 c3 e => b3.extBut _ _ c3 (b2.extBut _ _ c2 (b1.extBut _ _ c1 e))
  have q3 : SIt g3 k i1 l1 (i + 1) xs := q1.keep (fun o e => b3.extBut _ _ D.i12 e) fun o e => b3.extBut _ _ D.l1i2 e
  refine wpAny_pure ⟨_, rfl, ?_⟩
  show Q (.ref g3.objs.size) _
  have hp : IsPair (g3.push { cls := .type "tuple", data := .seq #[x, y] }) g3.objs.size x y := Heap.get?_push_size _ rfl
  have z4 : (g3.push { cls := .type "tuple", data := .seq #[x, y] }).objs.size = g3.objs.size + 1 := Heap.size_push ..
  rw [hsz] at hp z4 ⊢
  exact hQ _ (Heap.get?_push_of_some _ z3) (q3.keep (fun o e => Heap.get?_push_of_some _ e) fun o e => Heap.get?_push_of_some _ e) (q2.keep (fun o e => Heap.get?_push_of_some _ e) fun o e => Heap.get?_push_of_some _ e) hp z4
    fun c o c1 c2 c3 e => Heap.get?_push_of_some _ (hk c o c1 c2 c3 e)
theorem held_end {k : Bool} {z TI TO T i1 i2 l1 l2 : Addr} {f : Bool} {oT : Obj} {i : Nat} {xs : Array Value} {Q : Fin → Shared → Prop} (hh : A.handled = none) (D : ZipApart z TI TO i1 i2 l1 l2)
    (hz : IsZipHeld s.heap z TI TO T f) (hT : s.heap.get? T = some oT) (hTI : IsPair s.heap TI (.ref i1) (.ref i2)) (h1 : SIt s.heap k i1 l1 i xs) (hx : xs[i]? = none)
    (hE : ∀ h' e, (∀ c o, c ≠ z → c ≠ i1 → c ≠ i2 → s.heap.get? c = some o → h'.get? c = some o) → (∃ o, h'.get? e = some o ∧ o.cls = .type "StopIteration") → E (.ref e) { s with heap := h' }) :
    wpAny (model prog w) A (Builtin.«zip.__next__» ⟨[.ref z], []⟩) Q E s := by
  show wpAny _ _ (field (.ref z) 2 >>= _) _ _ _
  refine wpAny_bind (wpAny_field hz rfl (x := .bool false) rfl ?_)
  show wpAny _ _ (field (.ref z) 3 >>= _) _ _ _
  refine wpAny_bind (wpAny_field hz rfl (x := .ref TI) rfl ?_)
  refine wpAny_bind (wpAny_seqItems hTI rfl ?_)
  show wpAny _ _ (Builtin.SmallTypes.ownedTupleIsFree (.ref z) >>= _) _ _ _
  refine wpAny_bind (wpAny_tupleHeld_zip hz hT fun g1 z1 b1 => ?_)
  simp only [Bool.false_eq_true, if_false]
  refine wpAny_bind ?_
  rw [← Array.forIn_toList]
  simp only [List.forIn_cons, List.forIn_nil]
  refine wpAny_bind (wpAny_bind (wpAny_holding ?_))
  show wpAny _ _ (Builtin.SmallTypes.nextOf (.ref i1) >>= _) _ _ _
  have p1 : SIt g1 k i1 l1 i xs := h1.keep (fun o e => b1.extBut _ _ D.i1z e) fun o e => b1.extBut _ _ D.l1z e
  refine wpAny_bind (sit_end (s := { s with heap := g1 }) hh p1 hx fun g2 e b2 he => ?_)
  exact hE g2 e (fun c o c1 c2 _ x => b2 _ _ c2 (b1.extBut _ _ c1 x)) he
theorem ne_lo {a b lo : Nat} (g : lo < a) (h : b ≤ lo) : a ≠ b := Nat.ne_of_gt (Nat.lt_of_le_of_lt h g)
/-- the zip at z over two such iterators; the tuple that is out stands above lo -/
structure ZSt (h : Heap) (k : Bool) (lo z TI TO i1 i2 l1 l2 : Addr) (i : Nat) (xs ys : Array Value) : Prop where
  zp : (IsZip h z TI TO .none ∧ IsPair h TO .none .none) ∨ ∃ (T : Addr) (f : Bool), IsZipHeld h z TI TO T f ∧ (∃ o, h.get? T = some o) ∧ lo < T
  ti : IsPair h TI (.ref i1) (.ref i2)
  s1 : SIt h k i1 l1 i xs
  s2 : SIt h k i2 l2 i ys
theorem zs_item {k : Bool} {lo z TI TO i1 i2 l1 l2 : Addr} {i : Nat} {xs ys : Array Value} {x y : Value} {Q : Option Value → Shared → Prop} (D : ZipApart z TI TO i1 i2 l1 l2) (L : z ≤ lo ∧ TO ≤ lo ∧ i1 ≤ lo ∧ i2 ≤ lo) (hlo : lo < s.heap.objs.size) (st : ZSt s.heap k lo z TI TO i1 i2 l1 l2 i xs ys) (hx : xs[i]? = some x) (hy : ys[i]? = some y)
    (hQ : ∀ h', ZSt h' k lo z TI TO i1 i2 l1 l2 (i + 1) xs ys → IsPair h' s.heap.objs.size x y → h'.objs.size = s.heap.objs.size + 1 → (∀ c o, c ≠ z → c ≠ TO → c ≠ i1 → c ≠ i2 → s.heap.get? c = some o → h'.get? c = some o) → Q (some (.ref s.heap.objs.size)) { s with heap := h' }) :
    wpAny (model prog w) A (pyNext (.ref z)) Q E s := by
  obtain ⟨zp, ti, s1, s2⟩ := st
  rcases zp with ⟨hz, hTO⟩ | ⟨T, f, hz, ⟨oT, hT⟩, nT⟩
  · have fin : ∀ h', IsZip h' z TI TO (rawInt s.heap.objs.size) → SIt h' k i1 l1 (i + 1) xs → SIt h' k i2 l2 (i + 1) ys → IsPair h' s.heap.objs.size x y → h'.objs.size = s.heap.objs.size + 1 →
        (∀ c o, c ≠ z → c ≠ TO → c ≠ i1 → c ≠ i2 → s.heap.get? c = some o → h'.get? c = some o) → Q (some (.ref s.heap.objs.size)) { s with heap := h' } := fun h' a1 a3 a4 a5 a6 a7 =>
      hQ h' ⟨.inr ⟨s.heap.objs.size, false, a1, ⟨_, a5⟩, hlo⟩, a7 _ _ D.TIz D.TITO D.TIi1 D.TIi2 ti, a3, a4⟩ a5 a6 a7
    cases k with
    | true =>
      obtain ⟨j1, r1⟩ := s1
      obtain ⟨j2, r2⟩ := s2
      refine RZ.pyNext_zipT_item D hz ti hTO j1 j2 r1 r2 hx hy fun h' a1 a2 a3 a4 a5 a6 a7 => ?_
      obtain ⟨u1, f1, f2⟩ := r1
      obtain ⟨u2, g1, g2⟩ := r2
      exact fin h' a1 ⟨a3, ⟨u1, a7 _ _ D.l1z D.l1TO D.l1i1 D.l1i2 f1, f2⟩⟩ ⟨a4, ⟨u2, a7 _ _ D.l2z D.l2TO D.l2i1 D.l2i2 g1, g2⟩⟩ a5 a6 a7
    | false =>
      obtain ⟨j1, r1⟩ := s1
      obtain ⟨j2, r2⟩ := s2
      refine wpAny_pyNext_zip_item D hz ti hTO j1 j2 r1 r2 hx hy fun h' a1 a2 a3 a4 a5 a6 a7 => ?_
      obtain ⟨u1, f1, f2⟩ := r1
      obtain ⟨u2, g1, g2⟩ := r2
      exact fin h' a1 ⟨a3, ⟨u1, a7 _ _ D.l1z D.l1TO D.l1i1 D.l1i2 f1, f2⟩⟩ ⟨a4, ⟨u2, a7 _ _ D.l2z D.l2TO D.l2i1 D.l2i2 g1, g2⟩⟩ a5 a6 a7
  · have hTy : s.TypeIs (.ref z) "zip" := ⟨_, hz, rfl⟩
    unfold pyNext
    refine wpAny_bind (wpAny_attempt (wpAny_callSpecial?_slot (name := Str.ofString "__next__") hTy F.slot_zip_next
      (wpAny_call_entry F.slot_zip_next hTy F.entry_zip_next
        (held_item D hz hT ti s1 s2 hx hy fun h' a1 a3 a4 a5 a6 a7 => wpAny_pure ?_) (F.args_zip_next_1 _))))
    exact hQ h' ⟨.inr ⟨T, true, a1, ⟨_, a7 _ _ (ne_lo nT L.1) (ne_lo nT L.2.2.1) (ne_lo nT L.2.2.2) hT⟩, nT⟩, a7 _ _ D.TIz D.TIi1 D.TIi2 ti, a3, a4⟩ a5 a6 fun c o c1 _ c3 c4 e => a7 c o c1 c3 c4 e
theorem zs_end {k : Bool} {lo z TI TO i1 i2 l1 l2 : Addr} {i : Nat} {xs ys : Array Value} {Q : Option Value → Shared → Prop} (hh : A.handled = none) (D : ZipApart z TI TO i1 i2 l1 l2) (st : ZSt s.heap k lo z TI TO i1 i2 l1 l2 i xs ys) (hx : xs[i]? = none)
    (hQ : ∀ h', (∀ c o, c ≠ z → c ≠ TO → c ≠ i1 → c ≠ i2 → s.heap.get? c = some o → h'.get? c = some o) → Q none { s with heap := h' }) : wpAny (model prog w) A (pyNext (.ref z)) Q E s := by
  obtain ⟨zp, ti, s1, s2⟩ := st
  rcases zp with ⟨hz, hTO⟩ | ⟨T, f, hz, ⟨oT, hT⟩, nT⟩
  · cases k with
    | true => exact RZ.pyNext_zipT_end hh D hz ti hTO s1.1 s2.1 s1.2 s2.2 (.inl hx) hQ
    | false => exact wpAny_pyNext_zip_end hh D hz ti hTO s1.1 s2.1 s1.2 s2.2 (.inl hx) hQ
  · have hTy : s.TypeIs (.ref z) "zip" := ⟨_, hz, rfl⟩
    unfold pyNext
    refine wpAny_bind (wpAny_attempt (wpAny_callSpecial?_slot (name := Str.ofString "__next__") hTy F.slot_zip_next
      (wpAny_call_entry F.slot_zip_next hTy F.entry_zip_next (held_end hh D hz hT ti s1 hx fun h' e hk he => ?_) (F.args_zip_next_1 _))))
    obtain ⟨o, ho, hc⟩ := he
    refine wpAny_bind (wpAny_isInstance (T := "StopIteration") (b := true) ⟨o, ho, hc⟩ isSubtype_stop ?_)
    exact wpAny_pure (hQ _ fun c o c1 _ c3 c4 e => hk c o c1 c3 c4 e)
/-- the addresses as hold the pairs of xs and ys, in order, as tuples; they lie above lo and rise -/
structure Prs (xs ys : Array Value) (lo : Addr) (h : Heap) (as : List Addr) : Prop where
  rise : as.Pairwise (· < ·)
  above : ∀ a ∈ as, lo < a
  pairs : ∀ (j : Nat) (a : Addr), as[j]? = some a → ∃ x y, xs[j]? = some x ∧ ys[j]? = some y ∧ IsPair h a x y
theorem Prs.there {xs ys : Array Value} {lo : Addr} {h : Heap} {as : List Addr} (g : Prs xs ys lo h as) {a : Addr} (ha : a ∈ as) : a < h.objs.size := by
  obtain ⟨j, hj⟩ := List.mem_iff_getElem?.mp ha
  obtain ⟨_, _, _, _, e⟩ := g.pairs j a hj
  exact Heap.lt_size e
theorem Prs.low {xs ys : Array Value} {lo lo' : Addr} {h : Heap} {as : List Addr} (g : Prs xs ys lo h as) (hl : lo' ≤ lo) : Prs xs ys lo' h as := ⟨g.rise, fun a ha => Nat.lt_of_le_of_lt hl (g.above a ha), g.pairs⟩
theorem zip_lens : typeLookup (.type "zip") "__len__" = pure none := am_miss_of_fast (by decide +kernel)
theorem zip_hints : typeLookup (.type "zip") "__length_hint__" = pure none := am_miss_of_fast (by decide +kernel)
section
variable {R : Result → Shared → Prop} {k : Bool} {xs ys : Array Value}
theorem ZSt.keep {h h' : Heap} {lo z TI TO i1 i2 l1 l2 : Addr} {i : Nat} (x : ZSt h k lo z TI TO i1 i2 l1 l2 i xs ys) (S : Addr) (hk : ∀ b o, b ≠ S → h.get? b = some o → h'.get? b = some o) (n : S ≠ z ∧ S ≠ TI ∧ S ≠ TO ∧ S ≠ i1 ∧ S ≠ i2 ∧ S ≠ l1 ∧ S ≠ l2) (hS : S ≤ lo) : ZSt h' k lo z TI TO i1 i2 l1 l2 i xs ys := by
  obtain ⟨n1, n2, n3, n4, n5, n6, n7⟩ := n
  obtain ⟨zp, ti, s1, s2⟩ := x
  refine ⟨?_, hk _ _ n2.symm ti, s1.keep (fun o e => hk _ _ n4.symm e) (fun o e => hk _ _ n6.symm e), s2.keep (fun o e => hk _ _ n5.symm e) fun o e => hk _ _ n7.symm e⟩
  rcases zp with ⟨a, b⟩ | ⟨T, f, a, ⟨o, b⟩, c⟩
  · exact .inl ⟨hk _ _ n1.symm a, hk _ _ n3.symm b⟩
  · exact .inr ⟨T, f, hk _ _ n1.symm a, ⟨o, hk _ _ (ne_lo c hS) b⟩, c⟩
theorem zl_loop {S lo z TI TO i1 i2 l1 l2 : Addr} (hh : A.handled = none) (D : ZipApart z TI TO i1 i2 l1 l2) (n : S ≠ z ∧ S ≠ TI ∧ S ≠ TO ∧ S ≠ i1 ∧ S ≠ i2 ∧ S ≠ l1 ∧ S ≠ l2) (hSl : S ≤ lo) (L : z ≤ lo ∧ TO ≤ lo ∧ i1 ≤ lo ∧ i2 ≤ lo) (hsz : ys.size = xs.size) (hn : xs.size ≤ sizeLine) (res : Value) {h1 : Heap}
    (hR : ∀ h' tk acc c as, (∀ b o, b ≠ S → b ≠ z → b ≠ TO → b ≠ i1 → b ≠ i2 → h1.get? b = some o → h'.get? b = some o) → h'.get? S = some { cls := .type "list", dict := none, data := .seq acc c, slots := #[] } → as.length = xs.size → Prs xs ys lo h' as →
      acc.toList = as.map Value.ref → R (.ok (.ret res)) { s with heap := h', toks := tk }) :
    ∀ (m i : Nat) (h : Heap) (tk c : Nat) (acc : Array Value) (as : List Addr), xs.size - i = m → i ≤ xs.size → ZSt h k lo z TI TO i1 i2 l1 l2 i xs ys → (∀ b o, b ≠ S → b ≠ z → b ≠ TO → b ≠ i1 → b ≠ i2 → h1.get? b = some o → h.get? b = some o) →
      h.get? S = some { cls := .type "list", dict := none, data := .seq acc c, slots := #[] } → acc.toList = as.map Value.ref → as.length = i → Prs xs ys lo h as → lo < h.objs.size →
      codeAny (model prog w) A (.builtin "list.extend.loop" ⟨[.ref S, .ref z, res], []⟩) R { s with heap := h, toks := tk } := by
  intro m
  induction m with
  | zero =>
    intro i h tk c acc as hm hi st hkeep hS hacc hal hG hls
    have hin : i = xs.size := by omega
    refine codeAny_builtin PySem.F.entry_extend_loop ?_
    rw [Around.under_plainId PySem.F.plain_extend_loop _]
    show wpAny _ A.in1 (pyNext (.ref z) >>= _) _ _ _
    refine wpAny_bind (zs_end (s := { s with heap := h, toks := tk }) (A := A.in1) hh D st (by rw [hin]; simp) fun h' he => ?_)
    refine wpAny_pure (hR h' tk acc c as (fun b o q1 q2 q3 q4 q5 e => he b o q2 q3 q4 q5 (hkeep b o q1 q2 q3 q4 q5 e)) (he S _ n.1 n.2.2.1 n.2.2.2.1 n.2.2.2.2.1 hS) (by omega) ⟨hG.rise, hG.above, fun j a hj => ?_⟩ hacc)
    obtain ⟨x, y, e1, e2, e3⟩ := hG.pairs j a hj
    have ga := hG.above a (List.mem_of_getElem? hj)
    exact ⟨x, y, e1, e2, he a _ (ne_lo ga L.1) (ne_lo ga L.2.1) (ne_lo ga L.2.2.1) (ne_lo ga L.2.2.2) e3⟩
  | succ m ih =>
    intro i h tk c acc as hm hi st hkeep hS hacc hal hG hls
    have hlt : i < xs.size := by omega
    have hlt2 : i < ys.size := by omega
    have hac : acc.size = i := by rw [← Array.length_toList, hacc, List.length_map, hal]
    refine codeAny_builtin PySem.F.entry_extend_loop ?_
    rw [Around.under_plainId PySem.F.plain_extend_loop _]
    show wpAny _ A.in1 (pyNext (.ref z) >>= _) _ _ _
    refine wpAny_bind (zs_item (s := { s with heap := h, toks := tk }) D L hls st (Array.getElem?_eq_getElem hlt) (Array.getElem?_eq_getElem hlt2) fun h' st' ht hz' hkp => ?_)
    dsimp only at ht hz' hkp ⊢
    have hS' := hkp S _ n.1 n.2.2.1 n.2.2.2.1 n.2.2.2.2.1 hS
    have up : ∀ b o, b ≠ S → h'.get? b = some o → (h'.update S (Obj.mapSeq (·.push (Value.ref h.objs.size)))).get? b = some o := fun b o hb e => (Heap.get?_update_other _ _ (Ne.symm hb)).trans e
    have hSlt : S < h.objs.size := Heap.lt_size hS
    show wpAny _ A.in1 (updateSeq S (·.push (Value.ref h.objs.size)) >>= _) _ _ _
    refine wpAny_bind ?_
    refine wpAny_updateSeq hS' rfl (wpAny_pure ⟨plainId_quiet PySem.F.plain_extend_loop _, ih (i + 1) _ tk _ (acc.push (Value.ref h.objs.size)) (as ++ [h.objs.size]) (by omega) hlt (st'.keep S up n hSl)
      (fun b o q1 q2 q3 q4 q5 e => up b o q1 (hkp b o q2 q3 q4 q5 (hkeep b o q1 q2 q3 q4 q5 e))) (Heap.get?_update_self _ hS' rfl) (by rw [Array.toList_push, hacc, List.map_append]; rfl) (by rw [List.length_append, hal]; rfl) ⟨?_, ?_, ?_⟩ ?_⟩) (by rw [hac]; omega) (by show (acc.push (Value.ref h.objs.size)).size ≤ sizeLine + 1; rw [Array.size_push, hac]; omega)
    · refine List.pairwise_append.mpr ⟨hG.rise, List.pairwise_singleton _ _, fun a ha b hb => ?_⟩
      rw [List.mem_singleton.mp hb]
      exact hG.there ha
    · intro a ha
      rcases List.mem_append.mp ha with ha | ha
      · exact hG.above a ha
      · rw [List.mem_singleton.mp ha]; exact hls
    · intro j b hj
      rcases Nat.lt_trichotomy j as.length with q | q | q
      · rw [List.getElem?_append_left q] at hj
        obtain ⟨x, y, e1, e2, e3⟩ := hG.pairs j b hj
        have hb := hG.above b (List.mem_of_getElem? hj)
        exact ⟨x, y, e1, e2, up b _ (ne_lo hb hSl) (hkp b _ (ne_lo hb L.1) (ne_lo hb L.2.1) (ne_lo hb L.2.2.1) (ne_lo hb L.2.2.2) e3)⟩
      · subst q
        have hb : h.objs.size = b := by simpa using hj
        subst hb
        exact ⟨_, _, by rw [hal]; exact Array.getElem?_eq_getElem hlt, by rw [hal]; exact Array.getElem?_eq_getElem hlt2, up _ _ (Nat.ne_of_gt hSlt) ht⟩
      · have hnone : (as ++ [h.objs.size])[j]? = none := List.getElem?_eq_none (by rw [List.length_append, List.length_singleton]; omega)
        rw [hnone] at hj; cases hj
    · have e : (h'.update S (Obj.mapSeq (·.push (Value.ref h.objs.size)))).get? h.objs.size = _ := up _ _ (Nat.ne_of_gt hSlt) ht
      exact Nat.lt_trans hls (Heap.lt_size e)
theorem zip_hint {z TI TO : Addr} {f0 : Value} {Q : Bool → Shared → Prop} (hz : IsZip s.heap z TI TO f0) (h : Q true s) : wpAny (model prog w) A (Builtin.List.listLengthHint (.ref z)) Q E s := by
  have hT : s.TypeIs (.ref z) "zip" := ⟨_, hz, rfl⟩
  unfold Builtin.List.listLengthHint
  refine wpAny_bind (wpAny_specialOf hT zip_lens ?_)
  show wpAny _ _ (specialOf (Value.ref z) (Str.ofString "__length_hint__") >>= _) _ _ _
  refine wpAny_bind (wpAny_specialOf hT zip_hints ?_)
  exact wpAny_pure h
theorem zl_extend {S z TI TO i1 i2 l1 l2 : Addr} {lo c0 : Nat} (hh : A.handled = none) (D : ZipApart z TI TO i1 i2 l1 l2) (n : S ≠ z ∧ S ≠ TI ∧ S ≠ TO ∧ S ≠ i1 ∧ S ≠ i2 ∧ S ≠ l1 ∧ S ≠ l2) (hSl : S ≤ lo) (L : z ≤ lo ∧ TO ≤ lo ∧ i1 ≤ lo ∧ i2 ≤ lo) (hls : lo < s.heap.objs.size) (hsz : ys.size = xs.size) (hn : xs.size ≤ sizeLine) (res : Value)
    (st : ZSt s.heap k lo z TI TO i1 i2 l1 l2 0 xs ys) (hz0 : IsZip s.heap z TI TO .none) (hS : s.heap.get? S = some { cls := .type "list", data := .seq #[] c0 })
    (hR : ∀ h' tk acc c as, (∀ b o, b ≠ S → b ≠ z → b ≠ TO → b ≠ i1 → b ≠ i2 → s.heap.get? b = some o → h'.get? b = some o) → h'.get? S = some { cls := .type "list", dict := none, data := .seq acc c, slots := #[] } → as.length = xs.size → Prs xs ys lo h' as →
      acc.toList = as.map Value.ref → R (.ok (.ret res)) { s with heap := h', toks := tk }) :
    wpAny (model prog w) A.in1 (Builtin.List.listExtendWith (.ref S) (.ref z) res)
      (fun fin s' => match fin with | .done f => R (.ok f) s' | .again c' => c'.quiet = true ∧ codeAny (model prog w) A c' R s') (fun e s' => R (.error e) s') s := by
  have hT : s.TypeIs (.ref z) "zip" := ⟨_, hz0, rfl⟩
  unfold Builtin.List.listExtendWith
  refine wpAny_bind (wpAny_typeOf (T := "zip") hT ?_)
  have e1 : Builtin.List.listSameRef (.ref S) (.ref z) = false := by simp [Builtin.List.listSameRef, n.1]
  have e2 : (Value.type "zip" == Value.type "list") = false := by decide
  have e3 : (Value.type "zip" == Value.type "tuple") = false := by decide
  simp only [e1, e2, e3, Bool.or_false, Bool.false_eq_true, if_false]
  refine wpAny_bind (wpAny_pyIter_zip hz0 ?_)
  refine wpAny_bind (wpAny_holding (zip_hint hz0 ?_))
  simp only [Bool.true_or, if_true]
  refine wpAny_bind (wpAny_rule ?_)
  refine wpAny_bind ?_
  show wpAny _ _ (updateSeq S (·.push .none) >>= fun _ => updateSeq S (·.pop)) _ _ _
  refine wpAny_bind (wpAny_updateSeq hS rfl ?_)
  have hS2 := Heap.get?_update_self (Obj.mapSeq (·.push Value.none)) hS rfl
  refine wpAny_updateSeq (hz := by seq_fits) hS2 rfl ?_
  have hS3 := Heap.get?_update_self (Obj.mapSeq (·.pop)) hS2 rfl
  have oth : ∀ b o, b ≠ S → s.heap.get? b = some o → ((s.heap.update S (Obj.mapSeq (·.push Value.none))).update S (Obj.mapSeq (·.pop))).get? b = some o :=
    fun b o hb e => (Heap.get?_update_other _ _ (Ne.symm hb)).trans ((Heap.get?_update_other _ _ (Ne.symm hb)).trans e)
  refine wpAny_pure ⟨plainId_quiet PySem.F.plain_extend_loop _, ?_⟩
  refine zl_loop (s := s) (k := k) (h1 := s.heap) hh D n hSl L hsz hn res hR xs.size 0 _ s.toks _ #[] [] (Nat.sub_zero _) (Nat.zero_le _) (st.keep S oth n hSl) (fun b o q1 _ _ _ _ e => oth b o q1 e) hS3 rfl rfl
    ⟨List.Pairwise.nil, (fun _ ha => nomatch ha), (fun j a hj => by simp at hj)⟩ ?_
  rw [Heap.size_update, Heap.size_update]
  exact hls
theorem zl_call {z TI TO i1 i2 l1 l2 : Addr} {Q : Value → Shared → Prop} (hh : A.handled = none) (D : ZipApart z TI TO i1 i2 l1 l2) (U : z < s.heap.objs.size ∧ TI < s.heap.objs.size ∧ TO < s.heap.objs.size ∧ i1 < s.heap.objs.size ∧ i2 < s.heap.objs.size ∧ l1 < s.heap.objs.size ∧ l2 < s.heap.objs.size)
    (hsz : ys.size = xs.size) (hn : xs.size ≤ sizeLine) (st : ∀ lo, ZSt s.heap k lo z TI TO i1 i2 l1 l2 0 xs ys) (hz0 : IsZip s.heap z TI TO .none)
    (hQ : ∀ h' tk acc c as, (∀ b o, b ≠ z → b ≠ TO → b ≠ i1 → b ≠ i2 → s.heap.get? b = some o → h'.get? b = some o) → h'.get? s.heap.objs.size = some { cls := .type "list", dict := none, data := .seq acc c, slots := #[] } → as.length = xs.size → Prs xs ys s.heap.objs.size h' as →
      acc.toList = as.map Value.ref → Q (.ref s.heap.objs.size) { s with heap := h', toks := tk }) :
    wpAny (model prog w) A (call (.type "list") [.ref z]) Q E s := by
  refine callType_codes (Q₁ := fun obj s₁ => obj = .ref s.heap.objs.size ∧ s₁ = { s with heap := s.heap.push { cls := .type "list", data := .seq #[] } }) PySem.F.called_list (PySem.F.typeCall_list_1 _) PySem.F.entry_list_init
    (code_list_new _ ⟨rfl, rfl⟩) fun obj s₁ h₁ => ?_
  obtain ⟨rfl, rfl⟩ := h₁
  have hS : (s.heap.push { cls := .type "list", data := .seq #[] }).get? s.heap.objs.size = some { cls := .type "list", data := .seq #[] } := Heap.get?_push_size _ rfl
  refine ⟨⟨_, hS, rfl⟩, PySem.F.args_list_init_2 _ _, ?_⟩
  obtain ⟨u1, u2, u3, u4, u5, u6, u7⟩ := U
  show wpAny _ _ (do let old ← Builtin.List.listItems (.ref s.heap.objs.size); Builtin.List.listUpdate (.ref s.heap.objs.size) (fun _ => #[]); letGo old.toList.reverse; Builtin.List.listExtendWith (.ref s.heap.objs.size) (.ref z) .none) _ _ _
  refine wpAny_bind ?_
  unfold Builtin.List.listItems
  refine wpAny_bind (wpAny_seqItems hS rfl (wpAny_pure ?_))
  show wpAny _ _ (updateSeq s.heap.objs.size (fun _ => #[]) >>= fun _ => letGo (#[] : Array Value).toList.reverse >>= fun _ => Builtin.List.listExtendWith (.ref s.heap.objs.size) (.ref z) .none) _ _ _
  refine wpAny_bind (wpAny_updateSeq hS rfl ?_)
  have hS2 := Heap.get?_update_self (Obj.mapSeq (fun _ => (#[] : Array Value))) hS rfl
  have oth : ∀ b o, b ≠ s.heap.objs.size → s.heap.get? b = some o → ((s.heap.push { cls := .type "list", data := .seq #[] }).update s.heap.objs.size (Obj.mapSeq (fun _ => (#[] : Array Value)))).get? b = some o :=
    fun b o hb e => (Heap.get?_update_other _ _ (Ne.symm hb)).trans (Heap.get?_push_of_some _ e)
  refine wpAny_bind (wpAny_letGo ?_)
  have nn : s.heap.objs.size ≠ z ∧ s.heap.objs.size ≠ TI ∧ s.heap.objs.size ≠ TO ∧ s.heap.objs.size ≠ i1 ∧ s.heap.objs.size ≠ i2 ∧ s.heap.objs.size ≠ l1 ∧ s.heap.objs.size ≠ l2 :=
    ⟨Nat.ne_of_gt u1, Nat.ne_of_gt u2, Nat.ne_of_gt u3, Nat.ne_of_gt u4, Nat.ne_of_gt u5, Nat.ne_of_gt u6, Nat.ne_of_gt u7⟩
  refine zl_extend (s := { s with heap := (s.heap.push { cls := .type "list", data := .seq #[] }).update s.heap.objs.size (Obj.mapSeq (fun _ => (#[] : Array Value))) }) (prog := prog) (w := w) (A := A.in1) (R := wants (fun r s₂ => r = Value.none ∧ Q (Value.ref s.heap.objs.size) s₂) E) (k := k) (lo := s.heap.objs.size) hh D nn (Nat.le_refl _) ⟨Nat.le_of_lt u1, Nat.le_of_lt u3, Nat.le_of_lt u4, Nat.le_of_lt u5⟩ ?_ hsz hn .none ((st _).keep s.heap.objs.size oth nn (Nat.le_refl _)) (oth _ _ nn.1.symm hz0) hS2 (fun h' tk acc c as hk hS' hl hG hacc => ?_)
  · show s.heap.objs.size < (Heap.update _ _ _).objs.size
    rw [Heap.size_update, Heap.size_push]
    exact Nat.lt_succ_self _
  · exact ⟨rfl, hQ h' tk acc c as (fun b o q2 q3 q4 q5 e => hk b o (Nat.ne_of_lt (Heap.lt_size e)) q2 q3 q4 q5 (oth b o (Nat.ne_of_lt (Heap.lt_size e)) e)) hS' hl hG hacc⟩
end
end

/-! ### over the layer -/
/-- at ts stand the pairs of xs and ys -/
def Prz (H : Hp) (ts : List Addr) (xs ys : List V) : Prop := ts.length = xs.length ∧ ∀ (j : Nat) (t : Addr), ts[j]? = some t → ∃ x y, xs[j]? = some x ∧ ys[j]? = some y ∧ H t = some (.tup [x, y])
/-- list(zip(a, b)) -/
def uLZ (K : PySem.W.Frag) (ta : TA) : TE := fun σ H Q => ta σ H fun vs H1 => ∃ a b xs ys, vs = [.ref a, .ref b] ∧ xs.length = ys.length ∧ ((SqT K H1 a xs ∧ SqT K H1 b ys) ∨ (SqL K H1 a xs ∧ SqL K H1 b ys)) ∧
  ∀ (H' : Hp) (p : Addr) (ts : List Addr), Ex H1 H' → H1 p = none → (∀ t ∈ ts, H1 t = none) → p ∉ ts → H' p = some (.lst (ts.map V.ref)) → Prz H' ts xs ys → Q (.ref p) H'
section
variable {X : Cx} {pins : List (Addr × Obj)} {σ : L2.St} {H : Hp} {s : Shared}
/-- the tuples tracked at their addresses -/
def layT : Hp → List Addr → List V → List V → Hp
  | H, a :: as, x :: xs, y :: ys => layT (upd H a (.tup [x, y])) as xs ys
  | H, _, _, _ => H
theorem layT_off {b : Addr} : ∀ (as : List Addr) (xs ys : List V) (H : Hp), b ∉ as → layT H as xs ys b = H b
  | [], _, _, _, _ => rfl
  | _ :: _, [], _, _, _ => rfl
  | _ :: _, _ :: _, [], _, _ => rfl
  | a :: as, x :: xs, y :: ys, H, h => by
    show layT (upd H a (.tup [x, y])) as xs ys b = H b
    rw [layT_off as xs ys _ (fun z => h (List.mem_cons_of_mem _ z)), upd_ne (fun z => h (by rw [z]; exact List.mem_cons_self))]
theorem layT_at : ∀ (as : List Addr) (xs ys : List V) (H : Hp), as.length = xs.length → xs.length = ys.length → as.Nodup → Prz (layT H as xs ys) as xs ys
  | [], [], _, _, _, _, _ => ⟨rfl, fun j t h => by simp at h⟩
  | [], _ :: _, _, _, h, _, _ => by cases h
  | _ :: _, [], _, _, h, _, _ => by cases h
  | _ :: _, _ :: _, [], _, _, h, _ => by cases h
  | a :: as, x :: xs, y :: ys, H, h, h2, hn => by
    obtain ⟨n1, n2⟩ := List.nodup_cons.mp hn
    obtain ⟨l, ih⟩ := layT_at as xs ys (upd H a (.tup [x, y])) (Nat.succ.inj h) (Nat.succ.inj h2) n2
    refine ⟨h, fun j t e => ?_⟩
    show ∃ u v, _ ∧ _ ∧ layT (upd H a (.tup [x, y])) as xs ys t = _
    cases j with
    | zero =>
      simp at e
      subst e
      refine ⟨x, y, rfl, rfl, ?_⟩
      rw [layT_off as xs ys _ n1, upd_same]
    | succ j =>
      obtain ⟨u, v, e1, e2, e3⟩ := ih j t (by simpa using e)
      exact ⟨u, v, by simpa using e1, by simpa using e2, e3⟩
theorem zl_laid {h' : Heap} {tk : Nat} {xs ys : List V} {us vs : List Value} {acc : Array Value} {c : Nat} {as : List Addr} {S : Addr} (I : Inv X pins σ H s) (hz : xs.length ≤ sizeLine) (lxy : xs.length = ys.length) (ru : Vals xs us) (rv : Vals ys vs) (hS0 : s.heap.objs.size ≤ S)
    (hk : ∀ b o, s.heap.get? b = some o → h'.get? b = some o) (hS : h'.get? S = some { cls := .type "list", dict := none, data := .seq acc c, slots := #[] }) (hl : as.length = xs.length) (hG : Prs us.toArray vs.toArray S h' as) (hacc : acc.toList = as.map Value.ref) :
    ∃ H' : Hp, Ex H H' ∧ H S = none ∧ (∀ t ∈ as, H t = none) ∧ S ∉ as ∧ H' S = some (.lst (as.map V.ref)) ∧ Prz H' as xs ys ∧ Inv X pins σ H' { s with heap := h', toks := tk } := by
  have hSn : S ∉ as := fun z => Nat.lt_irrefl _ (hG.above _ z)
  have nd : as.Nodup := List.Pairwise.imp (fun {a b} (h : a < b) => Nat.ne_of_lt h) hG.rise
  have new : ∀ t ∈ as, H t = none := fun t ht => I.hok.fresh (Nat.le_trans hS0 (Nat.le_of_lt (hG.above t ht)))
  have newS : H S = none := I.hok.fresh hS0
  have atP := layT_at as xs ys (upd H S (.lst (as.map V.ref))) hl lxy nd
  have off : ∀ b, b ∉ as → b ≠ S → layT (upd H S (.lst (as.map V.ref))) as xs ys b = H b := fun b h1 h2 => by rw [layT_off as xs ys _ h1, upd_ne h2]
  have low : ∀ b o, s.heap.get? b = some o → b ∉ as ∧ b ≠ S := fun b o e => ⟨fun z => absurd (Heap.lt_size e) (Nat.not_lt.mpr (Nat.le_trans hS0 (Nat.le_of_lt (hG.above b z)))), Nat.ne_of_lt (Nat.lt_of_lt_of_le (Heap.lt_size e) hS0)⟩
  have kp : Ex H (layT (upd H S (.lst (as.map V.ref))) as xs ys) := fun b u e => by
    rw [off b (fun z => by rw [new b z] at e; cases e) (fun z => by rw [z, newS] at e; cases e)]
    exact e
  have eS : layT (upd H S (.lst (as.map V.ref))) as xs ys S = some (.lst (as.map V.ref)) := by rw [layT_off as xs ys _ hSn, upd_same]
  refine ⟨layT (upd H S (.lst (as.map V.ref))) as xs ys, kp, newS, new, hSn, eS, atP, ?_⟩
  refine I.call' (ch := []) rfl ⟨fun b o q _ _ _ => hk b o q, fun b o q _ _ _ => ⟨o.slots, hk b o q⟩, fun b o q n _ => ?_, fun b o q _ => ⟨o, hk b o q⟩, fun b xs q => kp b _ q, fun b o u q => kp b _ q, fun b ps q => ⟨#[], by rw [kp b _ q]; simp⟩⟩ (fun b u q => ?_) I.bare fun b z => by simp at z
  · obtain ⟨z1, z2⟩ := low b o q
    rw [off b z1 z2]
    exact n
  · by_cases hb : b ∈ as
    · obtain ⟨j, hj⟩ := List.mem_iff_getElem?.mp hb
      obtain ⟨x, y, e1, e2, e3⟩ := atP.2 j b hj
      rw [e3] at q
      cases q
      obtain ⟨x', y', f1, f2, f3⟩ := hG.pairs j b hj
      obtain ⟨u1, g1, r1⟩ := Vals.get ru e1
      obtain ⟨u2, g2, r2⟩ := Vals.get rv e2
      have a1 : x' = u1 := by
        rw [List.getElem?_toArray, g1] at f1
        exact (Option.some.inj f1).symm
      have a2 : y' = u2 := by
        rw [List.getElem?_toArray, g2] at f2
        exact (Option.some.inj f2).symm
      subst a1 a2
      exact ⟨by show 2 ≤ sizeLine; decide, [x', y'], .cons r1 (.cons r2 .nil), ⟨_, f3, rfl, _, rfl⟩⟩
    · by_cases hb2 : b = S
      · subst hb2
        rw [eS] at q
        cases q
        refine ⟨by rw [List.length_map, hl]; exact hz, acc.toList, c, by rw [hacc]; exact LiI.vals_refs as, ?_⟩
        rw [Array.toArray_toList]
        exact hS
      · rw [off b hb hb2] at q
        exact (I.hok b u q).stay (fun d v _ y => hk d v y) (fun d y => kp d _ y) fun d xs y => kp d _ y
theorem lt_ne {b n : Nat} (h : b < n) (j : Nat) : b ≠ n + j := Nat.ne_of_lt (Nat.lt_of_lt_of_le h (Nat.le_add_right _ _))
theorem lz7 {a b n : Nat} (la : a < n) (lb : b < n) : n + 4 < n + 5 ∧ n + 2 < n + 5 ∧ n + 3 < n + 5 ∧ n < n + 5 ∧ n + 1 < n + 5 ∧ a < n + 5 ∧ b < n + 5 := by omega
theorem pe_listZip {e e2 : Expr} {ta : TA} {p p2 pos pos2 : Pos} (hc : X.calm = true) (hg : Gl X "list") (hm : X.mg "list" = none) (hg2 : Gl X "zip") (hm2 : X.mg "zip" = none) (ha : PA X [e, e2] ta)
    (hs : starEach [e, e2] X.env = (false, eval e X.env) :: starEach [e2] X.env := by rfl) (hpl : (backTo pos2 (starEach [e2] X.env)).any (·.1) = false := by rfl)
    (hs1 : starEach [.Call (.Name "zip" p2) [e, e2] [] pos2] X.env = (false, eval (.Call (.Name "zip" p2) [e, e2] [] pos2) X.env) :: starEach [] X.env := by rfl) :
    PE X (.Call (.Name "list" p) [.Call (.Name "zip" p2) [e, e2] [] pos2] [] pos) (uLZ X.K ta) := by
  refine ⟨fun pins s σ H Q I h => ?_⟩
  refine wpAny_Call_Name_kw (ld_blt (u := .type "list") I hg hm (by decide +kernel) ?_)
  refine PyProof.Rows.callWith_type1 ?_ hs1 rfl
  rw [hs1]
  refine Calls.spliced_cons ?_
  refine Call_ (ld_blt I hg2 hm2 PyProof.Rows.boot_zip (PyProof.Rows.callWith_type1 (thn (ha.run pos2 pins s σ H _ I h) fun us s1 z => ?_) hs hpl))
  obtain ⟨vs, H1, I1, r1, a, b, xs, ys, ex, lxy, hq, q⟩ := z
  subst ex
  cases r1 with
  | cons r rr =>
    cases rr with
    | cons r' rr =>
      cases rr
      cases r
      cases r'
      have fin : ∀ (k : Bool) (its its2 : List Value), Vals xs its → Vals ys its2 → xs.length ≤ sizeLine → (∀ h' : Heap, (∀ c o, s1.heap.get? c = some o → h'.get? c = some o) → match k with | true => h'.IsTuple a its.toArray ∧ h'.IsTuple b its2.toArray | false => h'.IsList a its.toArray ∧ h'.IsList b its2.toArray) → a < s1.heap.objs.size → b < s1.heap.objs.size →
          ∀ h' : Heap, IsZip h' (s1.heap.objs.size + 4) (s1.heap.objs.size + 2) (s1.heap.objs.size + 3) .none → IsPair h' (s1.heap.objs.size + 2) (.ref s1.heap.objs.size) (.ref (s1.heap.objs.size + 1)) →
            IsPair h' (s1.heap.objs.size + 3) .none .none → (match k with | true => h'.IsTupleIter s1.heap.objs.size a 0 ∧ h'.IsTupleIter (s1.heap.objs.size + 1) b 0 | false => h'.IsListIter s1.heap.objs.size a 0 ∧ h'.IsListIter (s1.heap.objs.size + 1) b 0) → h'.objs.size = s1.heap.objs.size + 5 →
            (∀ c o, s1.heap.get? c = some o → h'.get? c = some o) → wpAny (model X.prog X.w) X.A (call (.type "list") [.ref (s1.heap.objs.size + 4)]) (EP X pins σ Q) X.xe { s1 with heap := h' } := by
        intro k its its2 rv rv2 hz hkk la lb h' hz0 hTI hTO hit hsz hk
        have lu := rv.length
        have lv := rv2.length
        have st : ∀ lo, ZSt h' k lo (s1.heap.objs.size + 4) (s1.heap.objs.size + 2) (s1.heap.objs.size + 3) s1.heap.objs.size (s1.heap.objs.size + 1) a b 0 its.toArray its2.toArray := fun lo => by
          have hq2 := hkk h' hk
          cases k with
          | true => exact ⟨.inl ⟨hz0, hTO⟩, hTI, ⟨hit.1, hq2.1⟩, ⟨hit.2, hq2.2⟩⟩
          | false => exact ⟨.inl ⟨hz0, hTO⟩, hTI, ⟨hit.1, hq2.1⟩, ⟨hit.2, hq2.2⟩⟩
        refine zl_call (s := { s1 with heap := h' }) (k := k) (I1.ok.hd hc) (PySem.W.ktu_apart s1.heap.objs.size a b la lb) ?_ (by rw [List.size_toArray, List.size_toArray]; omega) (by rw [List.size_toArray]; omega) st hz0 fun h2 tk acc c as k2 hS hl hG hacc => ?_
        · show _ < h'.objs.size ∧ _ < h'.objs.size ∧ _ < h'.objs.size ∧ _ < h'.objs.size ∧ _ < h'.objs.size ∧ _ < h'.objs.size ∧ _ < h'.objs.size
          rw [hsz]
          exact lz7 la lb
        · have hl' : as.length = xs.length := by
            rw [hl, List.size_toArray]
            omega
          have hS0 : s1.heap.objs.size ≤ h'.objs.size := by
            rw [hsz]
            exact Nat.le_add_right _ _
          obtain ⟨H', x1, x2, x3, x4, x5, x6, J⟩ := zl_laid (tk := tk) I1 hz lxy rv rv2 hS0 (fun b o e => k2 b o (lt_ne (Heap.lt_size e) 4) (lt_ne (Heap.lt_size e) 3) (lt_ne (Heap.lt_size e) 0) (lt_ne (Heap.lt_size e) 1) (hk b o e)) hS hl' hG hacc
          exact ⟨.ref h'.objs.size, H', J, rfl, q H' _ as x1 x2 x3 x4 x5 x6⟩
      rcases hq with ⟨hqx, hqy⟩ | ⟨hqx, hqy⟩
      · obtain ⟨its, rv, p1, z1⟩ := I1.tuple hqx
        obtain ⟨its2, rv2, p2, _⟩ := I1.tuple hqy
        obtain ⟨o1, ho1, w1⟩ := id p1
        obtain ⟨o2, ho2, w2⟩ := id p2
        have lu := rv.length
        refine RZ.call_zipT (show s1.heap.IsTuple a its.toArray from p1) (show s1.heap.IsTuple b its2.toArray from p2) fun h' hz hTI hTO h1 h2 hsz hk => ?_
        refine Calls.spliced_nil ?_
        exact fin true its its2 rv rv2 (by omega) (fun h3 k3 => ⟨⟨o1, k3 _ _ ho1, w1⟩, ⟨o2, k3 _ _ ho2, w2⟩⟩) (Heap.lt_size ho1) (Heap.lt_size ho2) h' hz hTI hTO ⟨h1, h2⟩ hsz hk
      · obtain ⟨its, rv, p1, z1⟩ := I1.list hqx
        obtain ⟨its2, rv2, p2, _⟩ := I1.list hqy
        have lu := rv.length
        obtain ⟨o1, ho1, w1⟩ := p1.isList
        obtain ⟨o2, ho2, w2⟩ := p2.isList
        refine call_zip_2 p1.isList p2.isList fun h' hz hTI hTO h1 h2 hsz hk => ?_
        refine Calls.spliced_nil ?_
        exact fin false its its2 rv rv2 (by omega) (fun h3 k3 => ⟨⟨o1, k3 _ _ ho1, w1⟩, ⟨o2, k3 _ _ ho2, w2⟩⟩) (Heap.lt_size ho1) (Heap.lt_size ho2) h' hz hTI hTO ⟨h1, h2⟩ hsz hk
end
end Bk

set_option Elab.async false
set_option linter.all false
set_option maxRecDepth 100000
set_option maxHeartbeats 4000000
/-! Bk4: calls of defs, of built-ins by values; the turns of a reading. -/
namespace Bk
open PySem PySem.Spec PyProof.Rows L2
section
variable {X : Cx}
/-! ### calls of defs -/
theorem passAt0 {σ : L2.St} : PassesAt (L2.CX X.prog X.w) X σ (fun _ _ _ => False) := fun _ _ _ _ _ _ h => by
  obtain ⟨_, _, _, _, _, _, _, _, _, _, _, _, z⟩ := h
  exact z.elim
def uCall (sp : Sp) (dvs : List V) (E : L2.St → XK) (t : TA) : TE := fun σ H Q => t σ H fun vs H1 => sp (vs ++ dvs) H1 Q (E σ)
theorem run_fnD {CX : CXT} {k : Nat} {f : Addr} {fd : FuncData} {ps : List Str} {sp : Sp} {ds : List Value} {dvs : List V} {E : XK} {pins : List (Addr × Obj)} {σ : L2.St} {H : Hp} {s : Shared} {Q : VK} {us : List Value} {vs : List V}
    (F : FnOk X.prog X.w X.K X.mg X.base CX k f fd ps sp) (hr : Room k X.A) (hb : Binds X.K fd ps ds) (hd : Vals dvs ds) (hx : PassesAt CX X σ E) (I : Inv X pins σ H s) (r : Vals vs us) (h : sp (vs ++ dvs) H Q E) :
    wpAny (model X.prog X.w) X.A (call (.ref f) us) (EP X pins σ Q) X.xe s := by
  have r2 : Vals (vs ++ dvs) (us ++ ds) := r.append hd
  have hl : (us ++ ds).length = ps.length := by rw [← r2.length]; exact F.len _ _ _ _ h
  refine wpAny_call (codeAny_mono (F.run X.A X.stack s H ⟨us, []⟩ (us ++ ds) (vs ++ dvs) Q E hr I.env0 (hb s us I.kIn hl) r2 h) fun r s' hq => ?_)
  cases r with
  | error e => exact hx pins H s e s' I hq
  | ok fl =>
    cases fl with
    | ret u => exact I.after hq
    | next => exact False.elim hq
    | brk => exact False.elim hq
    | cont => exact False.elim hq
variable {CX : CXT} {k : Nat} {f : Addr} {fd : FuncData} {ps : List Str} {sp : Sp} {ds : List Value} {dvs : List V} {E : L2.St → XK} {x : Str} {p pos : Pos} {e : Expr} {es : List Expr} {t : TA}
theorem pe_callD (F : FnOk X.prog X.w X.K X.mg X.base CX k f fd ps sp) (hr : Room k X.A) (hg : Gl X x) (hm : X.mg x = some (.ref f)) (hk : PySem.W.keepIn X.K (.ref f) = true) (hb : Binds X.K fd ps ds) (hd : Vals dvs ds) (hx : ∀ σ, PassesAt CX X σ (E σ))
    (ha : PA X (e :: es) t) (hdb : (x == ("__debug__" : Str)) = false := by decide) (he : starEach (e :: es) X.env = (false, eval e X.env) :: starEach es X.env := by rfl) (hpl : (backTo pos (starEach es X.env)).any (·.1) = false := by rfl) :
    PE X (.Call (.Name x p) (e :: es) [] pos) (uCall sp dvs E t) := by
  refine ⟨fun pins s σ H Q I h => ?_⟩
  refine wpAny_Call_Name_kw (ld_glob I hg hm ?_ hdb)
  refine PySem.W.callWith_K (h₀ := X.base) I.ok.mod.kin hk (thn (ha.run pos pins s σ H _ I h) fun us s1 z => ?_) he hpl
  obtain ⟨vs, H1, I1, r, q⟩ := z
  exact ⟨I1.kIn, run_fnD F hr hb hd (hx σ) I1 r q⟩
theorem pe_callD0 (F : FnOk X.prog X.w X.K X.mg X.base CX k f fd ps sp) (hr : Room k X.A) (hg : Gl X x) (hm : X.mg x = some (.ref f)) (hk : PySem.W.keepIn X.K (.ref f) = true) (hb : Binds X.K fd ps ds) (hd : Vals dvs ds) (hx : ∀ σ, PassesAt CX X σ (E σ))
    (hdb : (x == ("__debug__" : Str)) = false := by decide) : PE X (.Call (.Name x p) [] [] pos) (uCall sp dvs E tNil) := by
  refine ⟨fun pins s σ H Q I h => ?_⟩
  refine wpAny_Call_Name_kw (ld_glob I hg hm ?_ hdb)
  exact PySem.W.callWith_K0 I.kIn hk (run_fnD (us := []) F hr hb hd (hx σ) I .nil h)

/-! ### calls of built-ins by values -/
def uAbs : List V → Hp → VK → Prop := fun xs H Q => match xs with
  | [.int i] => Q (.int (i.natAbs : Nat)) H
  | _ => False
theorem uk_abs : CallR X (.builtin "abs") uAbs := by
  intro pins s σ H xs us Q I r h
  unfold uAbs at h
  split at h
  · rename_i i
    refine call_abs pins s σ H _ us Q I r ⟨_, rfl, ?_⟩
    have z : (if i < 0 then -i else i) = (i.natAbs : Nat) := by split <;> omega
    rw [z]
    exact h
  · exact h.elim
def uMax2 : List V → Hp → VK → Prop := fun xs H Q => match xs with
  | [.int i, .int j] => Q (.int (max i j)) H
  | _ => False
theorem uk_max2 (hc : X.calm = true) : CallR X (.builtin "max") uMax2 := by
  intro pins s σ H xs us Q I r h
  unfold uMax2 at h
  split at h
  · rename_i i j
    refine call_max2 hc pins s σ H _ us Q I r ⟨_, _, rfl, ?_⟩
    have z : (if j > i then j else i) = max i j := by split <;> omega
    rw [z]
    exact h
  · exact h.elim
def uMin2 : List V → Hp → VK → Prop := fun xs H Q => match xs with
  | [.int i, .int j] => Q (.int (min i j)) H
  | _ => False
theorem uk_min2 (hc : X.calm = true) : CallR X (.builtin "min") uMin2 := by
  intro pins s σ H xs us Q I r h
  unfold uMin2 at h
  split at h
  · rename_i i j
    refine call_min2 hc pins s σ H _ us Q I r ⟨_, _, rfl, ?_⟩
    have z : (if j < i then j else i) = min i j := by split <;> omega
    rw [z]
    exact h
  · exact h.elim
def b2z (b : Bool) : Int := if b then 1 else 0
def uInt : List V → Hp → VK → Prop := fun xs H Q => match xs with
  | [.int i] => Q (.int i) H
  | [.bl k] => Q (.int (b2z k)) H
  | _ => False
theorem uk_int : CallR X (.type "int") uInt := by
  intro pins s σ H xs us Q I r h
  unfold uInt at h
  split at h
  · exact call_int1 pins s σ H _ us Q I r (.inl ⟨_, rfl, h⟩)
  · exact call_int1 pins s σ H _ us Q I r (.inr ⟨_, rfl, h⟩)
  · exact h.elim
/-- a constant of the module's top -/
theorem pe_con {x : Str} {v : V} {pos : Pos} (hg : Gl X x) (h : ∃ u, X.mg x = some u ∧ RelV v u) (hd : (x == ("__debug__" : Str)) = false := by decide) : PE X (.Name x pos) (tC v) := by
  obtain ⟨u, hm, r⟩ := h
  exact pe_glob hg hm r hd

/-! ### isinstance by what the value is -/
/-- the kinds of values that we meet, as built-in types -/
inductive Ty : PySem.W.Frag → Hp → V → String → Prop where
  | non {K : PySem.W.Frag} {H : Hp} : Ty K H .non "NoneType"
  | bl {K : PySem.W.Frag} {H : Hp} (b : Bool) : Ty K H (.bl b) "bool"
  | int {K : PySem.W.Frag} {H : Hp} (i : Int) : Ty K H (.int i) "int"
  | str {K : PySem.W.Frag} {H : Hp} (z : Str) : Ty K H (.str z) "str"
  | lst {K : PySem.W.Frag} {H : Hp} {a : Addr} {xs : List V} (e : H a = some (.lst xs)) : Ty K H (.ref a) "list"
  | tup {K : PySem.W.Frag} {H : Hp} {a : Addr} {xs : List V} (e : H a = some (.tup xs)) : Ty K H (.ref a) "tuple"
theorem Ty.wide {K : PySem.W.Frag} {H : Hp} {v : V} {t : String} (h : Ty K H v t) : TyX K H v (.type t) := by
  cases h with
  | non => exact .base .non
  | bl b => exact .base (.bl b)
  | int i => exact .base (.int i)
  | str z => exact .base (.str z)
  | lst e => exact .base (.lst e)
  | tup e => exact .base (.tup e)
/-- isinstance(x, T), T a built-in type; x any value of ours -/
def uIs (K : PySem.W.Frag) : List V → Hp → VK → Prop := fun xs H Q => match xs with
  | [x, .ty T] => ∃ (t : String) (b : Bool), Ty K H x t ∧ kitB t T = some b ∧ Q (.bl b) H
  | _ => False
theorem uk_is : CallR X (.builtin "isinstance") (uIs X.K) := by
  intro pins s σ H xs us Q I r h
  unfold uIs at h
  split at h
  · obtain ⟨t, b, ty, e, q⟩ := h
    exact call_isi pins s σ H _ us Q I r ⟨_, _, _, _, b, rfl, .ty _, ty.wide, kit_ty e, q⟩
  · exact h.elim
/-- isinstance(x, (T, U)) -/
def uIsT (K : PySem.W.Frag) : List V → Hp → VK → Prop := fun xs H Q => match xs with
  | [x, .ref p] => ∃ (t T U : String) (b c : Bool), H p = some (.tup [.ty T, .ty U]) ∧ Ty K H x t ∧ kitB t T = some b ∧ kitB t U = some c ∧ Q (.bl (b || c)) H
  | _ => False
theorem uk_isT : CallR X (.builtin "isinstance") (uIsT X.K) := by
  intro pins s σ H xs us Q I r h
  unfold uIsT at h
  split at h
  · obtain ⟨t, T, U, b, c, ep, ty, e1, e2, q⟩ := h
    refine call_isiT pins s σ H _ us Q I r ⟨_, _, _, _, [.type T, .type U], b || c, rfl, ep, .cons (.ty T) (.cons (.ty U) .nil), ty.wide, ?_, q⟩
    refine kitAny_cons (kit_ty e1) (fun hb => ?_) fun hb => by rw [hb]; rfl
    rw [hb]
    exact kitAny_cons (kit_ty e2) (fun hc => by rw [hc]; rfl) fun hc => by rw [hc]; rfl
  · exact h.elim
end
end Bk

set_option Elab.async false
set_option linter.all false
set_option maxRecDepth 100000
set_option maxHeartbeats 4000000
/-! Bk5: the turns of a reading, one lemma a word. -/
namespace Bk
open PySem PySem.Spec PyProof.Rows L2
section
variable {D : Ends} {σ : L2.St} {H : Hp} {Q : VK} {K : PySem.W.Frag} {te ta tb tx : TE} {t u : TS} {c d : TT} {g : TG} {tr : TA} {v : V} {i j : Int} {n m : Nat} {r : R2} {gg : Int → Int → V} {C : Int → Int → Prop} {q : Bool → Hp → Prop} {b : Bool}
/-! statements -/
theorem g_seq (h : t { D with nx := u D } σ H) : tSeq t u D σ H := h
theorem g_asg (h : te σ H fun x H1 => g x σ H1 D.nx) : tAsg te g D σ H := h
theorem g_ret (h : te σ H D.rt) : tRet te D σ H := h
theorem g_retN (h : D.rt .non H) : tRetN D σ H := h
theorem g_drop (h : te σ H fun _ H1 => D.nx σ H1) : tDrop te D σ H := h
theorem g_ifs (h : c σ H fun b H1 => if b = true then t D σ H1 else u D σ H1) : tIfS c t u D σ H := h
theorem g_next (h : D.nx σ H) : tNext D σ H := h
theorem g_par {tA : TA} (h : tA σ H fun vs H1 => ∃ v w, vs = [v, w] ∧ D.nx ((σ.set n (some v)).set m (some w)) H1) : tPar n m tA D σ H := h
theorem g_pair {x y : V} {P : V → V → Prop} (h : P x y) : ∃ v w, [x, y] = [v, w] ∧ P v w := ⟨x, y, rfl, h⟩
theorem g_name {P : L2.St → Hp → Prop} (h : P (σ.set n (some v)) H) : gName n v σ H P := h
theorem g_sub {to ti : TE} {ts : TSet} {P : L2.St → Hp → Prop} (h : to σ H fun o H1 => ti σ H1 fun i H2 => ts o i v H2 fun H3 => P σ H3) : gSub to ti ts v σ H P := h
theorem g_setL {p : Addr} {xs : List V} {P : Hp → Prop} {k : Nat} (hp : H p = some (.lst xs)) (hk : ixN xs.length i = some k) (h : P (upd H p (.lst (xs.set k v)))) : rSetL (.ref p) (.int i) v H P := ⟨p, xs, i, k, rfl, rfl, hp, hk, h⟩
theorem g_tup2 {p : Addr} {x y : V} {t1 t2 : TG} {P : L2.St → Hp → Prop} (hp : H p = some (.tup [x, y])) (h : t1 x σ H fun σ1 H1 => t2 y σ1 H1 P) : gTup K 2 (gCons t1 (gCons t2 gNil)) (.ref p) σ H P := by
  refine ⟨p, [x, y], rfl, sqT hp, rfl, x, [y], rfl, ?_⟩
  have e : (fun σ' H' => gCons t2 gNil [y] σ' H' P) = fun σ1 H1 => t2 y σ1 H1 P := by
    funext σ1 H1
    apply propext
    constructor
    · rintro ⟨_, _, q, h⟩
      cases q
      have e2 : (fun σ' H' => gNil [] σ' H' P) = P := by
        funext σ2 H2
        exact propext ⟨fun z => z.2, fun z => ⟨rfl, z⟩⟩
      rw [e2] at h
      exact h
    · intro h
      refine ⟨y, [], rfl, ?_⟩
      have e2 : (fun σ' H' => gNil [] σ' H' P) = P := by
        funext σ2 H2
        exact propext ⟨fun z => z.2, fun z => ⟨rfl, z⟩⟩
      rw [e2]
      exact h
  rw [e]
  exact h
/-! expressions -/
theorem g_c (h : Q v H) : tC v σ H Q := h
theorem g_op (h : ta σ H fun x H1 => tb σ H1 fun y H2 => r x y H2 Q) : tOp r ta tb σ H Q := h
theorem g_un {f : V → Hp → VK → Prop} (h : ta σ H fun x H1 => f x H1 Q) : tUn f ta σ H Q := h
theorem g_cons {P : List V → Hp → Prop} (h : ta σ H fun x H1 => tr σ H1 fun xs H2 => P (x :: xs) H2) : tCons ta tr σ H P := h
theorem g_nil {P : List V → Hp → Prop} (h : P [] H) : tNil σ H P := h
theorem g_cb {f : List V → Hp → VK → Prop} (h : tr σ H fun vs H1 => f vs H1 Q) : tCB f tr σ H Q := h
theorem g_call {sp : Sp} {dvs : List V} {E : L2.St → XK} (h : tr σ H fun vs H1 => sp (vs ++ dvs) H1 Q (E σ)) : uCall sp dvs E tr σ H Q := h
theorem g_if (h : c σ H fun b H1 => if b = true then ta σ H1 Q else tb σ H1 Q) : tIf c ta tb σ H Q := h
theorem g_iT {A B : Prop} (h : A) : if true = true then A else B := by rw [if_pos rfl]; exact h
theorem g_iF {A B : Prop} (h : B) : if false = true then A else B := by rw [if_neg Bool.false_ne_true]; exact h
theorem g_iNT {A B : Prop} (h : B) : if (!true) = true then A else B := by rw [if_neg (by decide)]; exact h
theorem g_iNF {A B : Prop} (h : A) : if (!false) = true then A else B := by rw [if_pos (by decide)]; exact h
theorem g_isNn (h : Q (.bl true) H) : uIsN .non .non H Q := ⟨rfl, by rw [decide_eq_true rfl]; exact h⟩
theorem g_isNr {a : Addr} (h : Q (.bl false) H) : uIsN (.ref a) .non H Q := ⟨rfl, by rw [decide_eq_false (fun z => nomatch z)]; exact h⟩
theorem g_isNi (h : Q (.bl false) H) : uIsN (.int i) .non H Q := ⟨rfl, by rw [decide_eq_false (fun z => nomatch z)]; exact h⟩
theorem g_notNn (h : Q (.bl false) H) : uNotN .non .non H Q := ⟨rfl, by rw [decide_eq_true rfl]; exact h⟩
theorem g_notNr {a : Addr} (h : Q (.bl true) H) : uNotN (.ref a) .non H Q := ⟨rfl, by rw [decide_eq_false (fun z => nomatch z)]; exact h⟩
theorem g_notNi (h : Q (.bl true) H) : uNotN (.int i) .non H Q := ⟨rfl, by rw [decide_eq_false (fun z => nomatch z)]; exact h⟩
theorem g_i_true {P : V → Prop} {b : Bool} (e : b = true) (h : P (.bl true)) : P (.bl b) := e ▸ h
theorem g_notV (h : ta σ H fun x H1 => ∃ c, x = .bl c ∧ Q (.bl (!c)) H1) : tNotV ta σ H Q := h
theorem g_not (h : c σ H fun b H1 => q (!b) H1) : tNot c σ H q := h
theorem g_and (h : c σ H fun b H1 => if b = true then d σ H1 q else q false H1) : tAnd c d σ H q := h
theorem g_or (h : c σ H fun b H1 => if b = true then q true H1 else d σ H1 q) : tOr c d σ H q := h
theorem g_uT (h : te σ H fun x H1 => uTru K x H1 q) : uT K te σ H q := h
theorem g_test (h : te σ H fun x H1 => ∃ k, x = .bl k ∧ q k H1) : tTest te σ H q := h
theorem g_tB (h : te σ H fun x H1 => ∃ c, x = .bl c ∧ q c H1) : tB te σ H q := h
theorem g_bl {P : Bool → Prop} (h : P b) : ∃ k, V.bl b = .bl k ∧ P k := ⟨b, rfl, h⟩
theorem g_chain {r' : R2} (h : ta σ H fun x H1 => tb σ H1 fun y H2 => r x y H2 fun z H3 => ∃ k, z = .bl k ∧ (if k = true then tx σ H3 fun w' H4 => r' y w' H4 Q else Q (.bl false) H3)) : tChain r r' ta tb tx σ H Q := h
theorem g_andV (h : ta σ H fun x H1 => ∃ c, x = .bl c ∧ if c = true then tb σ H1 Q else Q (.bl false) H1) : tAndV ta tb σ H Q := h
theorem g_orV (h : ta σ H fun x H1 => ∃ c, x = .bl c ∧ if c = true then Q (.bl true) H1 else tb σ H1 Q) : tOrV ta tb σ H Q := h
theorem g_tbl (h : q b H) : uTru K (.bl b) H q := h
theorem g_tin (h : q (i != 0) H) : uTru K (.int i) H q := h
theorem g_addI (h : Q (.int (i + j)) H) : uAdd K (.int i) (.int j) H Q := h
theorem g_i0 (h : Q (gg i j) H) : uI0 gg (.int i) (.int j) H Q := h
theorem g_i (h : Q (gg i j) H) (hc : C i j) : uI C gg (.int i) (.int j) H Q := ⟨hc, h⟩
theorem g_neg (h : Q (.int (-i)) H) : uNeg (.int i) H Q := h
theorem g_eqI (h : Q (.bl (decide (V.int i = V.int j))) H) : rEq (.int i) (.int j) H Q := ⟨rfl, h⟩
theorem g_neI (h : Q (.bl (!decide (V.int i = V.int j))) H) : rNe (.int i) (.int j) H Q := ⟨rfl, h⟩
theorem g_eqS {x y : Str} (h : Q (.bl (decide (V.str x = V.str y))) H) : rEq (.str x) (.str y) H Q := ⟨rfl, h⟩
theorem g_neS {x y : Str} (h : Q (.bl (!decide (V.str x = V.str y))) H) : rNe (.str x) (.str y) H Q := ⟨rfl, h⟩
theorem g_neB {x y : Bool} (h : Q (.bl (!decide (V.bl x = V.bl y))) H) : rNe (.bl x) (.bl y) H Q := ⟨rfl, h⟩
theorem g_abs (h : Q (.int (i.natAbs : Nat)) H) : uAbs [.int i] H Q := h
theorem g_max (h : Q (.int (max i j)) H) : uMax2 [.int i, .int j] H Q := h
theorem g_min (h : Q (.int (min i j)) H) : uMin2 [.int i, .int j] H Q := h
theorem g_intI (h : Q (.int i) H) : uInt [.int i] H Q := h
theorem g_intB (h : Q (.int (b2z b)) H) : uInt [.bl b] H Q := h
theorem g_is {x : V} {T t : String} (ty : Ty K H x t) (e : kitB t T = some b) (h : Q (.bl b) H) : uIs K [x, .ty T] H Q := ⟨t, b, ty, e, h⟩
theorem g_lenL {p : Addr} {xs : List V} (hp : H p = some (.lst xs)) (h : Q (.int (xs.length : Nat)) H) : uLen K [.ref p] H Q := ⟨xs.length, .inl ⟨xs, .inl (sqL hp), rfl⟩, h⟩
theorem g_lenT {p : Addr} {xs : List V} (hp : H p = some (.tup xs)) (h : Q (.int (xs.length : Nat)) H) : uLen K [.ref p] H Q := ⟨xs.length, .inl ⟨xs, .inr (sqT hp), rfl⟩, h⟩
theorem g_lenSq {p : Addr} {xs : List V} (hp : SqL K H p xs) (h : Q (.int (xs.length : Nat)) H) : uLen K [.ref p] H Q := ⟨xs.length, .inl ⟨xs, .inl hp, rfl⟩, h⟩
theorem g_ixL {p : Addr} {xs : List V} (hp : H p = some (.lst xs)) (e : atI xs i = some v) (h : Q v H) : uIx K (.ref p) (.int i) H Q := ⟨xs, v, .inl (sqL hp), e, h⟩
theorem g_ixT {p : Addr} {xs : List V} (hp : H p = some (.tup xs)) (e : atI xs i = some v) (h : Q v H) : uIx K (.ref p) (.int i) H Q := ⟨xs, v, .inr (sqT hp), e, h⟩
theorem g_ixSq {p : Addr} {xs : List V} (hp : SqL K H p xs) (e : atI xs i = some v) (h : Q v H) : uIx K (.ref p) (.int i) H Q := ⟨xs, v, .inl hp, e, h⟩
theorem g_tup (h : tr σ H fun xs H1 => xs.length ≤ sizeLine ∧ ∀ p, H1 p = none → Q (.ref p) (upd H1 p (.tup xs))) : tTup tr σ H Q := h
theorem g_lst (h : tr σ H fun xs H1 => xs.length ≤ sizeLine ∧ ∀ p, H1 p = none → Q (.ref p) (upd H1 p (.lst xs))) : tLst tr σ H Q := h
theorem g_new {xs : List V} {P : Prop} (h : P) (hl : Nat.ble xs.length 1000 = true := by rfl) : xs.length ≤ sizeLine ∧ P := ⟨Nat.le_of_lt (small1000 (Nat.le_of_ble_eq_true hl)), h⟩
theorem g_newL {xs : List V} {P : Prop} (hl : xs.length ≤ 1000) (h : P) : xs.length ≤ sizeLine ∧ P := ⟨Nat.le_of_lt (small1000 hl), h⟩
theorem g_for {wi : TI} {tb : TS} {D : Ends} {σ : L2.St} {H : Hp} (h : wi σ H fun J H1 => ∃ W : Nat → Nat → L2.St → Hp → Prop, (∃ m, W 0 m σ H1) ∧ ∀ i m σ H, W i m σ H →
  (J.stop i H ∧ D.nx σ H) ∨ (J.go i H ∧ ∃ N : L2.St → Hp → Prop, (∀ σ' H', N σ' H' → ∃ m', m' < m ∧ W (i + 1) m' σ' H') ∧ ∀ x H', J.yld i H x H' → g x σ H' fun σ2 H2 => tb { D with nx := N, ct := N, bk := D.nx } σ2 H2)) : tFor wi g tb D σ H := h
theorem g_rng1 {R : It → Hp → Prop} (h : tr σ H fun vs H1 => ∃ j : Int, vs = [.int j] ∧ -(2 ^ 62) ≤ j ∧ j < 2 ^ 62 ∧ R (Itr 0 j.toNat) H1) : iRng1 tr σ H R := h
theorem g_rng2 {R : It → Hp → Prop} (h : tr σ H fun vs H1 => ∃ i j : Int, vs = [.int i, .int j] ∧ (-(2 ^ 62) ≤ i ∧ i < 2 ^ 62 ∧ -(2 ^ 62) ≤ j ∧ j < 2 ^ 62) ∧ R (Itr i (j - i).toNat) H1) : iRng2 tr σ H R := h
theorem g_bm0 {T : String} {f : V → List V → Hp → VK → Prop} (h : ta σ H fun x H1 => tyV K T x H1 ∧ f x [] H1 Q) : tBM0 K T f ta σ H Q := h
theorem g_bm {T : String} {f : V → List V → Hp → VK → Prop} (h : ta σ H fun x H1 => tyV K T x H1 ∧ tr σ H1 fun xs H2 => f x xs H2 Q) : tBM K T f ta tr σ H Q := h
theorem g_tyL {p : Addr} {xs : List V} {P : Prop} (hp : H p = some (.lst xs)) (h : P) : tyV K "list" (.ref p) H ∧ P := ⟨.inl ⟨rfl, xs, sqL hp⟩, h⟩
theorem g_app {p : Addr} {xs : List V} (hp : H p = some (.lst xs)) (hz : xs.length < sizeLine) (h : Q .non (upd H p (.lst (xs ++ [v])))) : rAppend (.ref p) [v] H Q := ⟨p, xs, v, rfl, rfl, hp, hz, h⟩
end
/-- the rest of a while's turn: it ends where W stands with less -/
def WN (W : Nat → L2.St → Hp → Prop) (m : Nat) (tb : TS) (D : Ends) (σ : L2.St) (H : Hp) : Prop := ∃ N : L2.St → Hp → Prop, (∀ σ' H', N σ' H' → ∃ m', m' < m ∧ W m' σ' H') ∧ tb { D with nx := N, ct := N, bk := D.nx } σ H
theorem g_wn {W : Nat → L2.St → Hp → Prop} {m : Nat} {tb : TS} {D : Ends} {σ : L2.St} {H : Hp} (h : tb { D with nx := fun σ' H' => ∃ m', m' < m ∧ W m' σ' H', ct := fun σ' H' => ∃ m', m' < m ∧ W m' σ' H', bk := D.nx } σ H) : WN W m tb D σ H := ⟨_, fun _ _ z => z, h⟩
/-- while, by a word that bears its measure -/
theorem g_while {c : TT} {tb : TS} {D : Ends} {σ : L2.St} {H : Hp} (W : Nat → L2.St → Hp → Prop) (m0 : Nat) (h0 : W m0 σ H) (hs : ∀ m σ H, W m σ H → c σ H fun b H1 => if b = true then WN W m tb D σ H1 else D.nx σ H1) : tWhile c tb D σ H :=
  ⟨W, ⟨m0, h0⟩, hs⟩
end Bk

set_option Elab.async false
set_option linter.all false
set_option maxRecDepth 100000
set_option maxHeartbeats 4000000
/-! Bk6: what all laws share: tests, boxes of draws, the law's own end. -/
namespace Bk
open PySem PySem.Spec PyProof.Rows L2
/-! ### tests -/
section
variable {A B : Prop} {i j : Int}
theorem i_d {p : Prop} [Decidable p] (h1 : p → A) (h2 : ¬ p → B) : if decide p = true then A else B := by
  by_cases h : p
  · rw [if_pos (decide_eq_true h)]; exact h1 h
  · rw [if_neg (by simp [h])]; exact h2 h
theorem i_n {p : Prop} [Decidable p] (h1 : ¬ p → A) (h2 : p → B) : if (!decide p) = true then A else B := by
  by_cases h : p
  · rw [if_neg (by simp [h])]; exact h2 h
  · rw [if_pos (by simp [h])]; exact h1 h
theorem i_b {b : Bool} (h1 : b = true → A) (h2 : b = false → B) : if b = true then A else B := by
  cases b with
  | true => rw [if_pos rfl]; exact h1 rfl
  | false => rw [if_neg Bool.false_ne_true]; exact h2 rfl
theorem i_eqI (h1 : i = j → A) (h2 : i ≠ j → B) : if decide (V.int i = V.int j) = true then A else B := i_d (fun h => h1 (V.int.inj h)) fun h => h2 fun e => h (congrArg V.int e)
theorem i_neI (h1 : i ≠ j → A) (h2 : i = j → B) : if (!decide (V.int i = V.int j)) = true then A else B := i_n (fun h => h1 fun e => h (congrArg V.int e)) fun h => h2 (V.int.inj h)
theorem i_eqS {x y : Str} (h1 : x = y → A) (h2 : x ≠ y → B) : if decide (V.str x = V.str y) = true then A else B := i_d (fun h => h1 (V.str.inj h)) fun h => h2 fun e => h (congrArg V.str e)
theorem i_neS {x y : Str} (h1 : x ≠ y → A) (h2 : x = y → B) : if (!decide (V.str x = V.str y)) = true then A else B := i_n (fun h => h1 fun e => h (congrArg V.str e)) fun h => h2 (V.str.inj h)
theorem i_T {b : Bool} (h : b = true) (a : A) : if b = true then A else B := by rw [if_pos h]; exact a
theorem i_F {b : Bool} (h : b = false) (a : B) : if b = true then A else B := by rw [h, if_neg Bool.false_ne_true]; exact a
end
/-- a statement that is never reached -/
theorem ps_no {X : Cx} {st : Stmt} : PS X st (fun _ _ _ => False) := ⟨fun _ _ _ _ _ _ h => h.elim⟩
/-! ### the structure's small parts -/
theorem exm_self {K : PySem.W.Frag} {S : Addr} (h1 : PySem.W.subIn K (.ref S) (.type "BaseException") = some true) (h2 : PySem.W.isClsIn K S = true) (h3 : PySem.W.typeIn K (.ref S) = some (.type "type")) (h4 : PySem.W.subIn K (.ref S) (.ref S) = some true) :
    PySem.W.exmOne K (.ref S) (.ref S) = some true := by
  have a : (PySem.W.subIn K (.ref S) (.type "BaseException") == some true) = true := by rw [h1] <;> rfl
  have b : ((PySem.W.clsIn K S).isSome && PySem.W.typeIn K (.ref S) == some (.type "type")) = true := by
    have z : (PySem.W.clsIn K S).isSome = true := h2
    rw [z, h3] <;> rfl
  show (if (PySem.W.subIn K (.ref S) (.type "BaseException") == some true) = true then (if ((PySem.W.clsIn K S).isSome && PySem.W.typeIn K (.ref S) == some (.type "type")) = true then PySem.W.subIn K (.ref S) (.ref S) else none) else none) = some true
  rw [if_pos a, if_pos b]
  exact h4
theorem binds_all {K : PySem.W.Frag} {fd : FuncData} {ps : List Str} (h : ∃ ds, Vals [] ds ∧ Binds K fd ps ds) : Binds K fd ps [] := by
  obtain ⟨ds, r, b⟩ := h
  cases r
  exact b
/-- what a law promises -/
def spLaw (K : PySem.W.Frag) : Sp := fun vs H Q _ => ∃ (a : Addr) (ns : List Int), vs = [.ref a] ∧ SqL K H a (ns.map V.int) ∧ ns.length ≤ 63 ∧ ∀ H', Q (.bl true) H'
theorem spLaw_of {K : PySem.W.Frag} {H : Hp} {a : Addr} {ns : List Int} (_ : Only H) (hS : SqL K H a (ns.map V.int)) (hl : ns.length ≤ 63) : spLaw K [.ref a] H (fun v _ => v = .bl true) fun _ _ _ => False := ⟨a, ns, rfl, hS, hl, fun _ => rfl⟩
theorem cx_false {P : Program} {w : World} {H : Hp} {s s' : Shared} {e : Value} (h : L2.CX P w [] H s (fun _ _ _ => False) e s') : False := by
  obtain ⟨_, _, _, _, _, _, _, _, _, _, _, _, z⟩ := h
  exact z
/-! ### a box of draws -/
def Box (H : Hp) (p : Addr) : Prop := ∃ a b c : Int, H p = some (.lst [.int a, .int b, .int c])
theorem Box.ex {H H' : Hp} {p : Addr} (b : Box H p) (e : Ex H H') : Box H' p := by
  obtain ⟨x, y, z, h⟩ := b
  exact ⟨x, y, z, e _ _ h⟩
theorem Box.but {H H' : Hp} {p l : Addr} (b : Box H p) (e : But l H H') (n : p ≠ l) : Box H' p := by
  obtain ⟨x, y, z, h⟩ := b
  exact ⟨x, y, z, e _ _ n h⟩
/-- take(box, m): a number from 0 to m - 1 -/
def spTake : Sp := fun vs H Q _ => ∃ (p : Addr) (m : Int), vs = [.ref p, .int m] ∧ Box H p ∧ 0 < m ∧ m.natAbs.log2 < 9000 ∧ ∀ (d : Int) (H' : Hp), 0 ≤ d → d < m → But p H H' → Box H' p → Q (.int d) H'
/-- box(script, k): a new box -/
def spBox (K : PySem.W.Frag) : Sp := fun vs H Q _ => ∃ (s : Addr) (ns : List Int) (k : Nat), vs = [.ref s, .int (k : Int)] ∧ SqL K H s (ns.map V.int) ∧ ns.length ≤ 63 ∧ ∀ (p : Addr) (H' : Hp), H p = none → Ex H H' → Box H' p → Q (.ref p) H'
theorem fmod_pos {a m : Int} (h : 0 < m) : 0 ≤ a.fmod m ∧ a.fmod m < m := by
  rw [Int.fmod_eq_emod_of_nonneg a (Int.le_of_lt h)]
  exact ⟨Int.emod_nonneg _ (Int.ne_of_gt h), Int.emod_lt_of_pos _ h⟩
theorem at_ints {ns : List Int} {i : Nat} (h : i < ns.length) : atI (ns.map V.int) (i : Int) = some (.int ns[i]) := atI_nat (by rw [List.getElem?_map, List.getElem?_eq_getElem h]; rfl)
end Bk

set_option Elab.async false
set_option linter.all false
set_option maxRecDepth 100000
set_option maxHeartbeats 4000000
/-! Bk7: sizes of numbers, the found pair's parts, values told apart. -/
namespace Bk
open PySem PySem.Spec PyProof.Rows L2
/-- within n bits -/
def Bits (n : Nat) (i : Int) : Prop := i.natAbs < 2 ^ n
instance instBits (n : Nat) (i : Int) : Decidable (Bits n i) := inferInstanceAs (Decidable (i.natAbs < 2 ^ n))
theorem Bits.le {n m : Nat} {i : Int} (h : Bits n i) (hm : n ≤ m := by decide) : Bits m i := Nat.lt_of_lt_of_le h (Nat.pow_le_pow_right (by decide) hm)
theorem Bits.mul {n m : Nat} {i j : Int} (h : Bits n i) (g : Bits m j) : Bits (n + m) (i * j) := by
  unfold Bits at *
  rw [Int.natAbs_mul, Nat.pow_add]
  exact Nat.mul_lt_mul'' h g
theorem Bits.add {n : Nat} {i j : Int} (h : Bits n i) (g : Bits n j) : Bits (n + 1) (i + j) := by
  unfold Bits at *
  rw [Nat.pow_succ]
  omega
theorem Bits.sub {n : Nat} {i j : Int} (h : Bits n i) (g : Bits n j) : Bits (n + 1) (i - j) := by
  unfold Bits at *
  rw [Nat.pow_succ]
  omega
theorem Bits.abs {n : Nat} {i : Int} (h : Bits n i) : Bits n (i.natAbs : Nat) := by
  unfold Bits at *
  omega
theorem Bits.of_le {n : Nat} {i j : Int} (h : Bits n j) (g : i.natAbs ≤ j.natAbs) : Bits n i := Nat.lt_of_le_of_lt g h
theorem Bits.log {n : Nat} {i : Int} (h : Bits n i) (hn : 0 < n := by decide) : i.natAbs.log2 < n := by
  by_cases c : i.natAbs = 0
  · rw [c]
    exact hn
  · exact (Nat.log2_lt c).2 h
theorem Bits.cm {n m : Nat} {i j : Int} (h : Bits n i) (g : Bits m j) (hn : n ≤ 1000 := by decide) (hm : m ≤ 900000 := by decide) : CMm i j := by
  refine .inr (mulL ?_ ?_)
  · exact (h.le hn).log
  · by_cases c : j.natAbs = 0
    · rw [c]
      decide
    · exact Nat.lt_of_lt_of_le ((Nat.log2_lt c).2 g) hm
theorem Bits.fd {n : Nat} {i j : Int} (h : Bits n j) (h0 : j ≠ 0) (hn : n ≤ 9000 := by decide) : CFd i j := by
  refine ⟨h0, ?_⟩
  exact Nat.lt_of_lt_of_le ((Nat.log2_lt (by omega)).2 h) hn
theorem fdiv_le {i j : Int} (h : j ≠ 0) (d : j ∣ i) : (i.fdiv j).natAbs ≤ i.natAbs := by
  rw [Int.fdiv_eq_ediv_of_dvd d]
  exact Int.natAbs_ediv_le_natAbs _ _
theorem Bits.of_fdiv {n : Nat} {i j : Int} (b : Bits n i) (h : j ≠ 0) (d : j ∣ i) : Bits n (i.fdiv j) := b.of_le (fdiv_le h d)
theorem gcd_bits {n : Nat} {u l : Int} (h : l ≠ 0) (b : Bits n l) : Bits n (Int.gcd u l : Nat) := by
  refine b.of_le ?_
  rw [Int.natAbs_natCast]
  exact Nat.le_of_dvd (by omega) (Nat.gcd_dvd_right u.natAbs l.natAbs)
/-- what the two parts are divided by -/
def fpt (u l : Int) : Int := if l < 0 then 0 - (Int.gcd u l : Nat) else (Int.gcd u l : Nat)
theorem fpt_ne {u l : Int} (h : l ≠ 0) : fpt u l ≠ 0 := by
  have e : Int.gcd u l ≠ 0 := fun z => h (Int.gcd_eq_zero_iff.1 z).2
  unfold fpt
  split <;> omega
theorem fpt_bits {n : Nat} {u l : Int} (h : l ≠ 0) (b : Bits n l) : Bits n (fpt u l) := by
  have g := gcd_bits (u := u) h b
  unfold fpt
  split
  · unfold Bits at *
    omega
  · exact g
theorem fpt_l (u l : Int) : fpt u l ∣ l := by
  unfold fpt
  split
  · rw [Int.zero_sub]
    exact Int.neg_dvd.2 (Int.gcd_dvd_right u l)
  · exact Int.gcd_dvd_right u l
theorem fpt_u (u l : Int) : fpt u l ∣ u := by
  unfold fpt
  split
  · rw [Int.zero_sub]
    exact Int.neg_dvd.2 (Int.gcd_dvd_left u l)
  · exact Int.gcd_dvd_left u l
/-- u / l in lowest terms -/
def fru (u l : Int) : Int := u.fdiv (fpt u l)
def frl (u l : Int) : Int := l.fdiv (fpt u l)
theorem fru_bits {n : Nat} {u l : Int} (h : l ≠ 0) (b : Bits n u) : Bits n (fru u l) := b.of_fdiv (fpt_ne h) (fpt_u u l)
theorem frl_bits {n : Nat} {u l : Int} (h : l ≠ 0) (b : Bits n l) : Bits n (frl u l) := b.of_fdiv (fpt_ne h) (fpt_l u l)
theorem frl_pos {u l : Int} (h : l ≠ 0) : 0 < frl u l := by
  have e : frl u l * fpt u l = l := by
    unfold frl
    rw [Int.fdiv_eq_ediv_of_dvd (fpt_l u l)]
    exact Int.ediv_mul_cancel (fpt_l u l)
  have g : 0 < Int.gcd u l := Nat.pos_of_ne_zero fun z => h (Int.gcd_eq_zero_iff.1 z).2
  by_cases c : l < 0
  · have f : fpt u l = 0 - (Int.gcd u l : Nat) := if_pos c
    rw [f] at e
    by_cases k : 0 < frl u l
    · exact k
    · exfalso
      have : 0 ≤ frl u l * (0 - (Int.gcd u l : Nat)) := Int.mul_nonneg_of_nonpos_of_nonpos (by omega) (by omega)
      omega
  · have f : fpt u l = (Int.gcd u l : Nat) := if_neg c
    rw [f] at e
    by_cases k : 0 < frl u l
    · exact k
    · exfalso
      have : frl u l * (Int.gcd u l : Nat) ≤ 0 := Int.mul_nonpos_of_nonpos_of_nonneg (by omega) (by omega)
      omega
def spAr (CN : Addr) (fu fl : Int → Int → Int → Int → Int) : Sp := fun vs H Q E => ∃ (p r : Addr) (a b c d : Int), vs = [.ref p, .ref r] ∧ H p = some (.tup [.int a, .int b]) ∧ H r = some (.tup [.int c, .int d]) ∧ Bits 500 a ∧ Bits 500 b ∧ Bits 500 c ∧ Bits 500 d ∧
  (fl a b c d = 0 → E (.ref CN) none H) ∧ (fl a b c d ≠ 0 → ∀ p, H p = none → Q (.ref p) (upd H p (.tup [.int (fru (fu a b c d) (fl a b c d)), .int (frl (fu a b c d) (fl a b c d))])))
def spLess : Sp := fun vs H Q _ => ∃ (p r : Addr) (a b c d : Int), vs = [.ref p, .ref r] ∧ H p = some (.tup [.int a, .int b]) ∧ H r = some (.tup [.int c, .int d]) ∧ Bits 500 a ∧ Bits 500 b ∧ Bits 500 c ∧ Bits 500 d ∧ Q (.bl (decide (a * d < c * b))) H
def spFrac (CN : Addr) : Sp := fun vs H Q E => ∃ u l : Int, vs = [.int u, .int l] ∧ Bits 2000 u ∧ Bits 2000 l ∧ (l = 0 → E (.ref CN) none H) ∧ (l ≠ 0 → ∀ p, H p = none → Q (.ref p) (upd H p (.tup [.int (fru u l), .int (frl u l)])))
end Bk

set_option Elab.async false
set_option linter.all false
set_option maxRecDepth 100000
set_option maxHeartbeats 4000000
/-! Bk8: two values of one reading are alike: what the laws' comparison needs. -/
namespace Bk
open PySem PySem.Spec PyProof.Rows L2
def D.tag : D → String
  | .non => "NoneType" | .bl _ => "bool" | .int _ => "int" | .str _ => "str" | .tup _ => "tuple" | .lst _ => "list"
def D.isT : D → Bool
  | .tup _ => true | _ => false
def D.isL : D → Bool
  | .lst _ => true | _ => false
def D.isB : D → Bool
  | .bl _ => true | _ => false
def D.isI : D → Bool
  | .int _ => true | .bl _ => true | _ => false
theorem Rep.ty {K : PySem.W.Frag} {H : Hp} {d : D} {v : V} (h : Rep H d v) : Ty K H v d.tag := by
  cases d <;> simp only [Rep] at h
  · subst h; exact .non
  · subst h; exact .bl _
  · subst h; exact .int _
  · subst h; exact .str _
  · obtain ⟨a, vs, rfl, e, _⟩ := h; exact .tup e
  · obtain ⟨a, vs, rfl, e, _⟩ := h; exact .lst e
theorem kit_tup (d : D) : kitB d.tag "tuple" = some d.isT := by cases d <;> simp only [D.tag, D.isT, D.isL, D.isB, D.isI] <;> decide +kernel
theorem kit_lst (d : D) : kitB d.tag "list" = some d.isL := by cases d <;> simp only [D.tag, D.isT, D.isL, D.isB, D.isI] <;> decide +kernel
theorem kit_bl (d : D) : kitB d.tag "bool" = some d.isB := by cases d <;> simp only [D.tag, D.isT, D.isL, D.isB, D.isI] <;> decide +kernel
theorem kit_int (d : D) : kitB d.tag "int" = some d.isI := by cases d <;> simp only [D.tag, D.isT, D.isL, D.isB, D.isI] <;> decide +kernel
section
variable {K : PySem.W.Frag} {H H0 H1 H2 : Hp} {Q : VK} {d : D} {v w : V}
theorem g_isD {T : String} {b : Bool} (r : Rep H d v) (e : kitB d.tag T = some b) (h : Q (.bl b) H) : uIs K [v, .ty T] H Q := ⟨_, b, r.ty, e, h⟩
theorem g_isTD {p : Addr} (r : Rep H d v) (hp : H p = some (.tup [.ty "tuple", .ty "list"])) (h : Q (.bl (d.isT || d.isL)) H) : uIsT K [v, .ref p] H Q := ⟨_, _, _, _, _, hp, r.ty, kit_tup d, kit_lst d, h⟩
theorem g_neBB {b : Bool} (h : Q (.bl false) H) : rNe (.bl b) (.bl b) H Q := ⟨rfl, by rw [decide_eq_true rfl]; exact h⟩
theorem g_neD (r : Rep H0 d v) (r' : Rep H0 d w) (ht : (d.isT || d.isL) = false) (h : Q (.bl false) H) : rNe v w H Q := by
  cases d <;> simp only [Rep] at r r'
  · subst r; subst r'; exact ⟨rfl, by rw [decide_eq_true rfl]; exact h⟩
  · subst r; subst r'; exact ⟨rfl, by rw [decide_eq_true rfl]; exact h⟩
  · subst r; subst r'; exact ⟨rfl, by rw [decide_eq_true rfl]; exact h⟩
  · subst r; subst r'; exact ⟨rfl, by rw [decide_eq_true rfl]; exact h⟩
  · cases ht
  · cases ht
theorem g_pop {l : Addr} {xs : List V} {y : V} (hl : H l = some (.lst (xs ++ [y]))) (h : Q y (upd H l (.lst xs))) : rPop (.ref l) [] H Q := by
  refine ⟨l, _, y, rfl, rfl, hl, ?_, ?_⟩
  · rw [List.length_append, List.length_singleton, Nat.add_sub_cancel, List.getElem?_append_right (Nat.le_refl _), Nat.sub_self]
    rfl
  · rw [List.dropLast_concat]
    exact h
theorem g_ext {l b : Addr} {xs zs : List V} (hl : H l = some (.lst xs)) (hb : H b = some (.lst zs)) (hz : xs.length + zs.length ≤ 1000000) (h : Q .non (upd H l (.lst (xs ++ zs)))) : rExtend (.ref l) [.ref b] H Q :=
  ⟨l, b, xs, zs, rfl, rfl, hl, hb, Nat.le_trans hz (by decide), h⟩
end
section
variable {K : PySem.W.Frag} {H H0 H1 H2 : Hp} {Q : VK} {d : D} {v w : V}
theorem D.open {d : D} (k : (d.isT || d.isL) = true) (r : Rep H0 d v) (r' : Rep H0 d w) : ∃ (a b : Addr) (ds : List D) (xs ys : List V), v = .ref a ∧ w = .ref b ∧ Reps H0 ds xs ∧ Reps H0 ds ys ∧ d.size = 1 + D.sizes ds ∧ ((H0 a = some (.tup xs) ∧ H0 b = some (.tup ys)) ∨ (H0 a = some (.lst xs) ∧ H0 b = some (.lst ys))) := by
  cases d <;> simp only [Rep] at r r'
  · cases k
  · cases k
  · cases k
  · cases k
  · rename_i ds
    obtain ⟨a, xs, rfl, ha, ra⟩ := r
    obtain ⟨b, ys, rfl, hb, rb⟩ := r'
    exact ⟨a, b, ds, xs, ys, rfl, rfl, ra, rb, by simp only [D.size], .inl ⟨ha, hb⟩⟩
  · rename_i ds
    obtain ⟨a, xs, rfl, ha, ra⟩ := r
    obtain ⟨b, ys, rfl, hb, rb⟩ := r'
    exact ⟨a, b, ds, xs, ys, rfl, rfl, ra, rb, by simp only [D.size], .inr ⟨ha, hb⟩⟩
theorem Reps.len2 {ds : List D} {xs ys : List V} (h : Reps H ds xs) (h' : Reps H ds ys) : xs.length = ys.length := h.len.trans h'.len.symm
theorem both_ex {a b : Addr} {xs ys : List V} (e : Ex H0 H) (h : (H0 a = some (.tup xs) ∧ H0 b = some (.tup ys)) ∨ (H0 a = some (.lst xs) ∧ H0 b = some (.lst ys))) : (H a = some (.tup xs) ∧ H b = some (.tup ys)) ∨ (H a = some (.lst xs) ∧ H b = some (.lst ys)) := by
  rcases h with ⟨h1, h2⟩ | ⟨h1, h2⟩
  · exact .inl ⟨e _ _ h1, e _ _ h2⟩
  · exact .inr ⟨e _ _ h1, e _ _ h2⟩
theorem both_sq {a b : Addr} {xs ys : List V} (h : (H a = some (.tup xs) ∧ H b = some (.tup ys)) ∨ (H a = some (.lst xs) ∧ H b = some (.lst ys))) : (SqT K H a xs ∧ SqT K H b ys) ∨ (SqL K H a xs ∧ SqL K H b ys) := by
  rcases h with ⟨h1, h2⟩ | ⟨h1, h2⟩
  · exact .inl ⟨sqT h1, sqT h2⟩
  · exact .inr ⟨sqL h1, sqL h2⟩
theorem g_len2a {a b : Addr} {xs ys : List V} (h : (H a = some (.tup xs) ∧ H b = some (.tup ys)) ∨ (H a = some (.lst xs) ∧ H b = some (.lst ys))) (q : Q (.int (xs.length : Nat)) H) : uLen K [.ref a] H Q := by
  rcases h with ⟨h1, h2⟩ | ⟨h1, h2⟩
  · exact g_lenT h1 q
  · exact g_lenL h1 q
theorem g_len2b {a b : Addr} {xs ys : List V} (h : (H a = some (.tup xs) ∧ H b = some (.tup ys)) ∨ (H a = some (.lst xs) ∧ H b = some (.lst ys))) (q : Q (.int (ys.length : Nat)) H) : uLen K [.ref b] H Q := by
  rcases h with ⟨h1, h2⟩ | ⟨h1, h2⟩
  · exact g_lenT h2 q
  · exact g_lenL h2 q
theorem g_lz {ta : TA} {σ : L2.St} (h : ta σ H fun vs H1 => ∃ a b xs ys, vs = [.ref a, .ref b] ∧ xs.length = ys.length ∧ ((SqT K H1 a xs ∧ SqT K H1 b ys) ∨ (SqL K H1 a xs ∧ SqL K H1 b ys)) ∧
  ∀ (H' : Hp) (p : Addr) (ts : List Addr), Ex H1 H' → H1 p = none → (∀ t ∈ ts, H1 t = none) → p ∉ ts → H' p = some (.lst (ts.map V.ref)) → Prz H' ts xs ys → Q (.ref p) H') : uLZ K ta σ H Q := h
end
/-- a pair of two of one reading -/
def Pr (H0 H1 : Hp) (d : D) (t : V) : Prop := ∃ a v w, t = .ref a ∧ H1 a = some (.tup [v, w]) ∧ Rep H0 d v ∧ Rep H0 d w
/-- a pile of such, of a size in all -/
inductive PrS (H0 H1 : Hp) : Nat → List V → Prop where
  | nil : PrS H0 H1 0 []
  | snoc {n : Nat} {ts : List V} {d : D} {t : V} (h : PrS H0 H1 n ts) (r : Pr H0 H1 d t) : PrS H0 H1 (n + d.size) (ts ++ [t])
theorem PrS.len {H0 H1 : Hp} {n : Nat} {ts : List V} (h : PrS H0 H1 n ts) : ts.length ≤ n := by
  induction h with
  | nil => exact Nat.le_refl _
  | @snoc n ts d t h r ih =>
    have := d.size_pos
    rw [List.length_append, List.length_singleton]
    omega
theorem PrS.tk {H0 H1 H2 : Hp} {n : Nat} {ts : List V} (e : Tk H1 H2) (h : PrS H0 H1 n ts) : PrS H0 H2 n ts := by
  induction h with
  | nil => exact .nil
  | snoc h r ih =>
    obtain ⟨a, v, w, rfl, ha, rv, rw'⟩ := r
    exact .snoc ih ⟨a, v, w, rfl, e _ _ ha, rv, rw'⟩
theorem PrS.ext {H0 H1 : Hp} : ∀ {ds : List D} {xs ys : List V} {tl : List Addr} {n : Nat} {ts : List V}, Reps H0 ds xs → Reps H0 ds ys → Prz H1 tl xs ys → PrS H0 H1 n ts → PrS H0 H1 (n + D.sizes ds) (ts ++ tl.map V.ref)
  | [], xs, ys, tl, n, ts, hx, hy, hp, h => by
    simp only [Reps] at hx hy
    subst hx
    have e : tl = [] := List.eq_nil_of_length_eq_zero hp.1
    subst e
    simpa [D.sizes] using h
  | d :: ds, xs, ys, tl, n, ts, hx, hy, hp, h => by
    simp only [Reps] at hx hy
    obtain ⟨x, xr, rfl, rx, hx⟩ := hx
    obtain ⟨y, yr, rfl, ry, hy⟩ := hy
    cases tl with
    | nil => cases hp.1
    | cons t tl =>
      obtain ⟨x', y', ex, ey, ht⟩ := hp.2 0 t rfl
      cases ex
      cases ey
      have hp' : Prz H1 tl xr yr := ⟨Nat.succ.inj hp.1, fun j u hu => by
        obtain ⟨a, b, q⟩ := hp.2 (j + 1) u hu
        exact ⟨a, b, q⟩⟩
      have z := PrS.ext hx hy hp' (h.snoc ⟨t, x, y, rfl, ht, rx, ry⟩)
      have e1 : n + D.sizes (d :: ds) = n + d.size + D.sizes ds := by simp only [D.sizes]; omega
      have e2 : ts ++ (t :: tl).map V.ref = ts ++ [V.ref t] ++ tl.map V.ref := by simp
      rw [e1, e2]
      exact z
/-- what the comparison promises -/
def spAlike : Sp := fun vs H Q _ => ∃ (d : D) (v w : V), vs = [v, w] ∧ Rep H d v ∧ Rep H d w ∧ d.size ≤ 400000 ∧ ∀ H', Ex H H' → Q (.bl true) H'
theorem prz_len {H : Hp} {ts : List Addr} {xs ys : List V} (h : Prz H ts xs ys) : (ts.map V.ref).length = xs.length := by rw [List.length_map]; exact h.1
theorem sizes_len : ∀ ds : List D, ds.length ≤ D.sizes ds
  | [] => Nat.le_refl _
  | d :: ds => by
    have := sizes_len ds
    have := d.size_pos
    simp only [D.sizes, List.length_cons]
    omega
/-! ### isinstance of a caught error -/
theorem kit_sub {K : PySem.W.Frag} {C : Addr} {T : String} {b : Bool} (h : PySem.W.subIn K (.ref C) (.type T) = some b) (hm : PySem.W.kitMeta T = true := by decide +kernel) : PySem.W.kitOne K (.ref C) (.type T) = some b := by
  unfold PySem.W.kitOne PySem.W.kitCls
  show (if PySem.W.kitMeta T = true then PySem.W.subIn K (.ref C) (.type T) else none) = some b
  rw [if_pos hm]
  exact h
theorem kit_own {K : PySem.W.Frag} {C D : Addr} {b : Bool} (h : PySem.W.subIn K (.ref C) (.ref D) = some b) (hs : PySem.W.subIn K (.ref C) (.ref C) = some true) (hi : PySem.W.isClsIn K D = true) (ht : PySem.W.typeIn K (.ref D) = some (.type "type")) : PySem.W.kitOne K (.ref C) (.ref D) = some b := by
  unfold PySem.W.kitOne
  by_cases c : (Value.ref C == Value.ref D) = true
  · have e : Value.ref C = Value.ref D := beq_iff_eq.mp c
    rw [e] at h
    rw [if_pos c]
    cases e
    rw [h] at hs
    exact hs.symm
  · rw [if_neg c]
    have z : ((PySem.W.clsIn K D).isSome && PySem.W.typeIn K (.ref D) == some (.type "type")) = true := by
      have z1 : (PySem.W.clsIn K D).isSome = true := hi
      rw [z1, ht] <;> rfl
    show (if ((PySem.W.clsIn K D).isSome && PySem.W.typeIn K (.ref D) == some (.type "type")) = true then PySem.W.subIn K (.ref C) (.ref D) else none) = some b
    rw [if_pos z]
    exact h
def uIsE (K : PySem.W.Frag) (D a : Addr) (cls : Value) (d : Option Addr) : List V → Hp → VK → Prop := fun xs H Q => cls = .ref D ∧ d = none ∧ rIsE K D a xs H Q
theorem uk_isE {X : Cx} {a D : Addr} {oe : Obj} {pn : List (Addr × Obj)} {cls : Value} {d : Option Addr} (C : ExcC X.K D) (hz : Zc cls d oe) (hf : ∃ vs, oe.data = .fields vs) : CallR (X.suite a ((a, oe) :: pn)) (.builtin "isinstance") (uIsE X.K D a cls d) := by
  intro pins s σ H xs us Q I r h
  obtain ⟨rfl, rfl, h⟩ := h
  exact call_isE C hz hf pins s σ H xs us Q I r h
theorem g_isET {K : PySem.W.Frag} {D a : Addr} {T : String} {b : Bool} {H : Hp} {Q : VK} (h : PySem.W.kitOne K (.ref D) (.type T) = some b) (q : Q (.bl b) H) : uIsE K D a (.ref D) none [.ref a, .ty T] H Q := ⟨rfl, rfl, _, _, b, rfl, fun u z => z, h, q⟩
theorem g_isEC {K : PySem.W.Frag} {D C a : Addr} {b : Bool} {H : Hp} {Q : VK} (h : PySem.W.kitOne K (.ref D) (.ref C) = some b) (q : Q (.bl b) H) : uIsE K D a (.ref D) none [.ref a, .ref C] H Q := ⟨rfl, rfl, _, _, b, rfl, fun u z => z, h, q⟩
/-! ### lowest terms, as the laws find them -/
theorem max_fpt {u l : Int} (h : 0 < l) : max 1 (Int.gcd u l : Int) = fpt u l := by
  have g : 0 < Int.gcd u l := Nat.pos_of_ne_zero fun z => by
    have := (Int.gcd_eq_zero_iff.1 z).2
    omega
  unfold fpt
  rw [if_neg (by omega)]
  omega
theorem sgn_of (l : Int) : (1 - 2 * b2z (decide (l < 0)) : Int) = if l < 0 then -1 else 1 := by
  by_cases c : l < 0
  · rw [decide_eq_true c, if_pos c]; rfl
  · rw [decide_eq_false c, if_neg c]; rfl
theorem fpt_sgn {u l : Int} (h : l ≠ 0) : fpt (u * (1 - 2 * b2z (decide (l < 0)))) (l.natAbs : Nat) = (Int.gcd u l : Nat) := by
  have e : fpt (u * (1 - 2 * b2z (decide (l < 0)))) (l.natAbs : Nat) = (Int.gcd (u * (1 - 2 * b2z (decide (l < 0)))) (l.natAbs : Nat) : Nat) := if_neg (by omega)
  rw [e, sgn_of]
  congr 1
  unfold Int.gcd
  rw [Int.natAbs_mul, Int.natAbs_natCast]
  split <;> simp
theorem fru_sgn {u l : Int} (h : l ≠ 0) : fru (u * (1 - 2 * b2z (decide (l < 0)))) (l.natAbs : Nat) = fru u l := by
  unfold fru
  rw [fpt_sgn h, sgn_of]
  unfold fpt
  by_cases c : l < 0
  · rw [if_pos c, if_pos c, Int.zero_sub, Int.mul_neg, Int.mul_one]
    have := Int.neg_fdiv_neg u (-(Int.gcd u l : Nat))
    rw [Int.neg_neg] at this
    exact this
  · rw [if_neg c, if_neg c, Int.mul_one]
theorem frl_sgn {u l : Int} (h : l ≠ 0) : frl (u * (1 - 2 * b2z (decide (l < 0)))) (l.natAbs : Nat) = frl u l := by
  unfold frl
  rw [fpt_sgn h]
  unfold fpt
  by_cases c : l < 0
  · have e : ((l.natAbs : Nat) : Int) = -l := by omega
    rw [if_pos c, e, Int.zero_sub]
    have := Int.neg_fdiv_neg l (-(Int.gcd u l : Nat))
    rw [Int.neg_neg] at this
    exact this
  · have e : ((l.natAbs : Nat) : Int) = l := by omega
    rw [if_neg c, e]
theorem b2z_bits (b : Bool) : Bits 1 (b2z b) := by cases b <;> decide
/-- lowest(u, l), l above nought -/
def spLow : Sp := fun vs H Q _ => ∃ u l : Int, vs = [.int u, .int l] ∧ Bits 2000 u ∧ Bits 2000 l ∧ 0 < l ∧ ∀ p, H p = none → Q (.ref p) (upd H p (.tup [.int (fru u l), .int (frl u l)]))
/-- the fraction, or none -/
def spMade : Sp := fun vs H Q _ => ∃ u l : Int, vs = [.int u, .int l] ∧ Bits 900 u ∧ Bits 900 l ∧ (l = 0 → Q .non H) ∧ (l ≠ 0 → ∀ p, H p = none → Q (.ref p) (upd H p (.tup [.int (fru u l), .int (frl u l)])))
theorem Rep.two {H : Hp} {a : Addr} {x y : V} {d e : D} (h : H a = some (.tup [x, y])) (r : Rep H d x) (s : Rep H e y) : Rep H (.tup [d, e]) (.ref a) := by
  simp only [Rep, Reps]
  exact ⟨a, _, rfl, h, x, _, rfl, r, y, _, rfl, s, rfl⟩
theorem Rep.three {H : Hp} {a : Addr} {x y z : V} {d e f : D} (h : H a = some (.tup [x, y, z])) (r : Rep H d x) (s : Rep H e y) (t : Rep H f z) : Rep H (.tup [d, e, f]) (.ref a) := by
  simp only [Rep, Reps]
  exact ⟨a, _, rfl, h, x, _, rfl, r, y, _, rfl, s, z, _, rfl, t, rfl⟩
theorem Rep.i {H : Hp} (n : Int) : Rep H (.int n) (.int n) := by simp only [Rep]
theorem Rep.s {H : Hp} (n : Str) : Rep H (.str n) (.str n) := by simp only [Rep]
theorem Rep.b {H : Hp} (n : Bool) : Rep H (.bl n) (.bl n) := by simp only [Rep]
theorem Rep.n {H : Hp} : Rep H .non .non := by simp only [Rep]
/-- a drawn whole number -/
def spWhole : Sp := fun vs H Q _ => ∃ p : Addr, vs = [.ref p] ∧ Box H p ∧ ∀ (i : Int) (H' : Hp), Bits 110 i → But p H H' → Box H' p → Q (.int i) H'
theorem fru_one (u : Int) : fru u 1 = u := by
  unfold fru fpt
  rw [if_neg (by decide), Int.gcd_one_right]
  exact Int.fdiv_one u
theorem frl_one (u : Int) : frl u 1 = 1 := by
  unfold frl fpt
  rw [if_neg (by decide), Int.gcd_one_right]
  rfl
/-- a fraction of the laws, as it stands -/
def Fr (H : Hp) (p : Addr) (a b : Int) : Prop := H p = some (.tup [.int a, .int b]) ∧ Bits 300 a ∧ Bits 300 b ∧ 0 < b
def spBoth : Sp := fun vs H Q _ => ∃ (p r : Addr) (a b c d : Int), vs = [.ref p, .ref r] ∧ Fr H p a b ∧ Fr H r c d ∧ ∀ H', Ex H H' → Q (.bl true) H'
theorem size2 (x y : Int) : (D.tup [.int x, .int y]).size ≤ 400000 := by
  simp only [D.size, D.sizes]
  decide
/-- such a one, as a value -/
def Good (H : Hp) (v : V) : Prop := ∃ (p : Addr) (a b : Int), v = .ref p ∧ Fr H p a b
theorem Good.ex {H H' : Hp} {v : V} (e : Ex H H') (g : Good H v) : Good H' v := by
  obtain ⟨p, a, b, rfl, h, x⟩ := g
  exact ⟨p, a, b, rfl, e _ _ h, x⟩
theorem Good.tk {H H' : Hp} {v : V} (e : Tk H H') (g : Good H v) : Good H' v := by
  obtain ⟨p, a, b, rfl, h, x⟩ := g
  exact ⟨p, a, b, rfl, e _ _ h, x⟩
theorem Good.fr {H : Hp} {p : Addr} {u l : Int} (h : H p = some (.tup [.int (fru u l), .int (frl u l)])) (hl : l ≠ 0) (bu : Bits 300 u) (bl : Bits 300 l) : Good H (.ref p) := ⟨p, _, _, rfl, h, fru_bits hl bu, frl_bits hl bl, frl_pos hl⟩
def MadeV (H : Hp) (u l : Int) (v : V) : Prop := (l = 0 ∧ v = .non) ∨ (l ≠ 0 ∧ ∃ p, v = .ref p ∧ H p = some (.tup [.int (fru u l), .int (frl u l)]))
theorem spMade.of {H : Hp} {Q : VK} {E : XK} {u l : Int} (bu : Bits 900 u) (bl : Bits 900 l) (h : ∀ v H', Ex H H' → MadeV H' u l v → Q v H') : spMade [.int u, .int l] H Q E :=
  ⟨u, l, rfl, bu, bl, fun z => h _ _ (Ex.refl _) (.inl ⟨z, rfl⟩), fun z p hp => h _ _ (Ex.new hp) (.inr ⟨z, p, rfl, upd_same⟩)⟩
section
variable {K : PySem.W.Frag} {H : Hp} {Q : VK} {σ : L2.St}
theorem g_sl {r : V → Option Int → Option Int → Hp → VK → Prop} {te : TE} {tl th : TO} (h : te σ H fun x H1 => tl σ H1 fun l H2 => th σ H2 fun u H3 => r x l u H3 Q) : tSl r te tl th σ H Q := h
theorem g_noP {P : Option Int → Hp → Prop} (h : P none H) : tNoPart σ H P := h
theorem g_slL {a : Addr} {xs : List V} {lo hi : Option Int} (ha : H a = some (.lst xs)) (h : ∀ p, H p = none → Q (.ref p) (upd H p (.lst (cutV xs lo hi)))) : rSlL K (.ref a) lo hi H Q := ⟨a, xs, rfl, sqL ha, h⟩
theorem g_catL {a b : Addr} {xs ys : List V} (ha : H a = some (.lst xs)) (hb : H b = some (.lst ys)) (hl : xs.length + ys.length ≤ 1000000) (h : ∀ p, H p = none → Q (.ref p) (upd H p (.lst (xs ++ ys)))) : uAdd K (.ref a) (.ref b) H Q :=
  .inl ⟨a, b, xs, ys, rfl, rfl, ha, hb, Nat.le_trans hl (by decide), h⟩
theorem g_part {te : TE} {P : Option Int → Hp → Prop} (h : te σ H fun x H1 => ∃ i, x = .int i ∧ P (some i) H1) : tPart te σ H P := h
theorem g_exI {i : Int} {P : Int → Prop} (h : P i) : ∃ j, V.int i = .int j ∧ P j := ⟨i, rfl, h⟩
end
theorem g_zipA {K : PySem.W.Frag} {ta : TA} {σ : L2.St} {H : Hp} {R : It → Hp → Prop} (h : ta σ H fun vs H1 => ∃ a b xs ys, vs = [.ref a, .ref b] ∧ ((SqL K H1 a xs ∧ SqL K H1 b ys ∧ R (Itz K a b) H1) ∨ (SqT K H1 a xs ∧ SqT K H1 b ys ∧ R (RZ.ItzT K a b) H1))) : RZ.iZipA K ta σ H R := h
theorem cutV_mem {xs : List V} {lo hi : Option Int} {v : V} (h : v ∈ cutV xs lo hi) : v ∈ xs := List.mem_of_mem_drop (List.mem_of_mem_take h)
end Bk

set_option Elab.async false
set_option linter.all false
set_option maxRecDepth 100000
set_option maxHeartbeats 4000000
/-! Bk9: enumerate over a tuple. -/
namespace Bk
open PySem PySem.Spec PyProof.Rows L2
open AutoSeq1 (wpAny_loadPart')
def tupO (dct : Option Addr) (xs : Array Value) (n : Nat) (sl : Array (Option Value)) : Obj := { cls := .type "tuple", dict := dct, data := .seq xs n, slots := sl }
def tuiO (l : Addr) : Obj := { cls := .type "tuple_iterator", data := .fields #[.ref l, .int 0 0] }
def enuO (i : Addr) : Obj := { cls := .type "enumerate", data := .fields #[.none, .bool false, .ref i, rawInt 0, .none, .none] }
theorem meets_enumT (l : Addr) (xs : Array Value) (n : Nat) (dct : Option Addr) (sl : Array (Option Value)) :
    Meets (Builtin.«enumerate.__new__» ⟨[.type "enumerate", .ref l], []⟩) (fun _ R s => s.heap.get? l = some (tupO dct xs n sl) ∧ R (.ok (.ret (.ref (s.heap.push (tuiO l)).objs.size))) { s with heap := (s.heap.push (tuiO l)).push (enuO s.heap.objs.size) }) :=
  .of_wp fun prog w A R s z => by
    obtain ⟨hp, ge, dr, tk, os⟩ := s
    obtain ⟨hl, h⟩ := z
    have s0 := sub_enumerate
    unfold tupO at hl
    have hT : Heap.IsTuple (Shared.heap ⟨hp, ge, dr, tk, os⟩) l xs := ⟨_, hl, rfl, n, rfl⟩
    wp_walk using (wpAny_loadPart' hl)
    (refine wpAny_stack_any fun st => wpAny_pure ?_); split
    · rename_i c _ _ _ _ _
      cases (c == Value.type "enumerate") <;> (wp_walk using (wpAny_loadPart' hl), (wpAny_pyIter_tuple hT)) <;> exact ⟨_, rfl, h⟩
    · wp_walk using (wpAny_loadPart' hl), (wpAny_pyIter_tuple hT)
      exact ⟨_, rfl, h⟩
section
variable {prog : Program} {w : World} {A : Around} {E : Value → Shared → Prop} {s : Shared}
theorem call_enumT {l : Addr} {xs : Array Value} {Q : Value → Shared → Prop} (hT : s.heap.IsTuple l xs)
    (h : ∀ g, IsEnum g (s.heap.objs.size + 1) s.heap.objs.size 0 .none → g.IsTupleIter s.heap.objs.size l 0 → (∀ c o, s.heap.get? c = some o → g.get? c = some o) → Q (.ref (s.heap.objs.size + 1)) { s with heap := g }) :
    wpAny (model prog w) A (call (.type "enumerate") [.ref l]) Q E s := by
  obtain ⟨⟨c0, dc, da, sl⟩, hl, e1, n, e2⟩ := hT
  cases (show c0 = .type "tuple" from e1)
  cases (show da = .seq xs n from e2)
  refine callType_new F.called_enumerate (by decide) (F.typeCall_enumerate_1 _) (F.newCall_enumerate_1 _) (fun x => F.args_object_init_2 x _) F.entry_enumerate_new (meets_enumT l xs n dc sl) ⟨hl, ?_⟩
  have z1 : (s.heap.push (tuiO l)).objs.size = s.heap.objs.size + 1 := Heap.size_push ..
  have g2 : ((s.heap.push (tuiO l)).push (enuO s.heap.objs.size)).get? (s.heap.push (tuiO l)).objs.size = some (enuO s.heap.objs.size) := Heap.get?_push_size _ rfl
  have g1 : ((s.heap.push (tuiO l)).push (enuO s.heap.objs.size)).get? s.heap.objs.size = some (tuiO l) := Heap.get?_push_of_some _ (Heap.get?_push_size _ rfl)
  rw [z1] at g2
  show _ ∧ _
  rw [z1]
  exact ⟨⟨_, g2, rfl⟩, h _ g2 ⟨_, g1, rfl, rfl⟩ fun c o x => Heap.get?_push_of_some _ (Heap.get?_push_of_some _ x)⟩
theorem enumT_end {e it l : Addr} {i : Nat} {xs : Array Value} {old : Value} {Q : Option Value → Shared → Prop} (hh : A.handled = none) (he : IsEnum s.heap e it i old) (hit : s.heap.IsTupleIter it l i) (hT : s.heap.IsTuple l xs) (hx : xs[i]? = none)
    (hQ : ∀ g, Heap.ExtBut it s.heap g → Q none { s with heap := g }) : wpAny (model prog w) A (pyNext (.ref e)) Q E s := by
  have ty : s.TypeIs (.ref e) "enumerate" := ⟨_, he, rfl⟩
  unfold pyNext
  refine wpAny_bind (wpAny_attempt (wpAny_callSpecial?_slot (name := Str.ofString "__next__") ty F.slot_enumerate_next (wpAny_call_entry F.slot_enumerate_next ty F.entry_enumerate_next ?_ (F.args_enumerate_next_1 _))))
  show wpAny _ _ (field (.ref e) 2 >>= fun _ => _) _ _ s
  refine wpAny_bind (wpAny_field he rfl (x := .ref it) rfl (wpAny_bind (wpAny_nextOf_tuple_end (by exact hh) hit hT hx fun g z eb ⟨o, ho, hc⟩ => ?_)))
  exact wpAny_bind (wpAny_isInstance (T := "StopIteration") (b := true) ⟨o, ho, hc⟩ isSubtype_stop (wpAny_pure (hQ _ eb)))
end
/-- the turns of enumerate over the tuple at a -/
def ItE (K : PySem.W.Frag) (a : Addr) : It :=
  ⟨fun i H => ∃ (xs : List V) (x : V), SqT K H a xs ∧ xs[i]? = some x,
    fun i H v H' => ∃ (T : Addr) (x : V), v = .ref T ∧ H T = none ∧ H' = upd H T (.tup [.int (i : Nat), x]) ∧ ∀ xs, SqT K H a xs → xs[i]? = some x,
    fun i H => ∃ xs : List V, SqT K H a xs ∧ xs.length ≤ i⟩
theorem turn_enumT {P : Program} {w : World} {K : PySem.W.Frag} {elts : List Expr} {kk : Nat} {tpos : Pos} (a e it : Addr) (nt : a ≠ it) (ea : e ≠ a) :
    Turn P w K (.Tuple elts kk tpos) (ItE K a) [e, it] e (fun i h => (∃ old, IsEnum h e it ((i : Nat) : Int) old) ∧ h.IsTupleIter it a i ∧ e ≠ it) where
  mem := by simp
  obj := fun i h st b hb => by
    obtain ⟨⟨old, h1⟩, ⟨o, h2, _, h3⟩, _⟩ := st
    rcases (show b = e ∨ b = it by simpa using hb) with rfl | rfl
    · exact ⟨_, h1, fun v q => nomatch q⟩
    · exact ⟨o, h2, fun v q => by rw [h3] at q; cases q⟩
  keep := fun i h h' st k => ⟨st.1.elim fun old z => ⟨old, k e (by simp) _ z⟩, st.2.1.at fun o q => k it (by simp) o q, st.2.2⟩
  item := by
    intro X eP ew eK hc i pins s σ H E I hf st hg
    subst eP ew eK
    obtain ⟨⟨old, he⟩, hit, hne⟩ := st
    obtain ⟨xs, x, hq, hx⟩ := hg
    obtain ⟨its, rv, p, _⟩ := I.tuple hq
    obtain ⟨u, hu, ru⟩ := rv.get hx
    have le := Heap.lt_size he
    have li : it < s.heap.objs.size := hit.elim fun _ q => Heap.lt_size q.1
    have hlt : i < its.toArray.size := by
      rw [List.size_toArray]
      exact (List.getElem?_eq_some_iff.1 hu).1
    refine wpAny_pyNext_enum_itemD (Draws.tuple (A := X.A.in1) (show X.A.in1.handled = none from I.ok.hd hc) it a nt its.toArray) he ⟨hit, p⟩ hlt hne (by simpa using ⟨hne, ea⟩) fun y g tk py ho hst hT hsz hk => ?_
    have ey : y = u := by
      have z : its.toArray[i]? = some u := by simpa using hu
      exact Option.some.inj (py.symm.trans z)
    subst ey
    refine ⟨_, rfl, wpAny_letOwnedTupleGo_enum (s := { s with heap := g, toks := tk + 1 }) ho fun g2 h2 sb => ?_⟩
    have hT2 : g2.get? s.heap.objs.size = some { cls := .type "tuple", data := .seq #[.int i tk, y] } := (sb.2 _ (Nat.ne_of_gt le)).trans hT
    have new : ObjOk X.prog X.w (upd H s.heap.objs.size (.tup [.int (i : Nat), x])) g2 s.heap.objs.size (.tup [.int (i : Nat), x]) := ⟨(show 2 ≤ sizeLine by decide), [.int i tk, y], .cons ⟨_, rfl⟩ (.cons ru .nil), ⟨_, hT2, rfl, _, rfl⟩⟩
    have I1 : Inv X pins σ (upd H s.heap.objs.size (.tup [.int (i : Nat), x])) { s with heap := g2, toks := tk + 1 } := I.turnedNew (ch := [e, it]) (fun b o nb q => (sb.2 b (fun z => nb (by simp [z]))).trans (hk b o (fun z => nb (by simp [z])) (fun z => nb (by simp [z])) q)) hf (Nat.le_refl _) new
    refine ⟨.ref s.heap.objs.size, _, I1, rfl, ⟨_, x, rfl, I.hok.fresh (Nat.le_refl _), rfl, fun ys hy => by rw [I.tuple_inj hy hq]; exact hx⟩, ⟨⟨y, ?_⟩, hst.1.at fun o q => (sb.2 it (Ne.symm hne)).trans q, hne⟩, fun b hb => ?_⟩
    · have z : ((i + 1 : Nat) : Int) = (i : Int) + 1 := Int.natCast_succ i
      rw [z]
      exact h2
    · have lb : b < s.heap.objs.size := by
        rcases (show b = e ∨ b = it by simpa using hb) with rfl | rfl
        · exact le
        · exact li
      rw [upd_ne (Nat.ne_of_lt lb)]
      exact (hf b hb).1
  done := by
    intro X eP ew eK hc i pins s σ H E I hf st hg
    subst eP ew eK
    obtain ⟨⟨old, he⟩, hit, hne⟩ := st
    obtain ⟨xs, hq, hx⟩ := hg
    obtain ⟨its, rv, p, _⟩ := I.tuple hq
    obtain ⟨f0, f1, f2, f3, f4, f5⟩ := hf it (by simp)
    have hl := rv.length
    have i0 : i = its.toArray.size ∨ its.toArray.size < i := by
      rw [List.size_toArray]
      omega
    exact enumT_end (I.ok.hd hc) he hit p (by simp; omega) fun g eb => ⟨rfl, I.turned (t' := s.toks) (fun b o hb q => eb b o hb q) f0 f1 f3 f4 f5⟩
  self := fun A i s Q E st h => let ⟨⟨_, he⟩, _⟩ := st; wpAny_pyIter_enum he h
end Bk

set_option Elab.async false
set_option linter.all false
set_option maxRecDepth 100000
set_option maxHeartbeats 4000000
/-! Bk10: walks over enumerate; in, slices, tuple(..), join, all, dicts by readings that compute. -/
namespace Bk
open PySem PySem.Spec PyProof.Rows L2
def iEnumT (K : PySem.W.Frag) (ta : TA) : TI := fun σ H R => ta σ H fun vs H1 => ∃ a xs, vs = [.ref a] ∧ SqT K H1 a xs ∧ R (ItE K a) H1
section
variable {X : Cx}
theorem pi_enumT {e : Expr} {ta : TA} {p pos tpos : Pos} {elts : List Expr} {kk : Nat} (hg : Gl X "enumerate") (hm : X.mg "enumerate" = none) (ha : PA X [e] ta) (hs : starEach [e] X.env = [(false, eval e X.env)] := by rfl) : PI X (.Tuple elts kk tpos) (.Call (.Name "enumerate" p) [e] [] pos) (iEnumT X.K ta) := by
  refine ⟨fun pins s σ H R I h => ?_⟩
  refine Call_ (ld_blt I hg hm PyProof.Rows.boot_enumerate (PyProof.Rows.callWith_type1 (thn (ha.run pos pins s σ H _ I h) fun us s1 ⟨vs, H1, I1, r1, a, xs, ex, hq, q⟩ => ?_) hs rfl))
  cases ex
  cases r1 with
  | cons r rr =>
    cases rr
    cases r
    obtain ⟨its, rv, p', _⟩ := I1.tuple hq
    obtain ⟨o, ho, _⟩ := id p'
    have la := Heap.lt_size ho
    refine call_enumT (show s1.heap.IsTuple a its.toArray from p') fun g he hit hk => wpAny_pyIter_enum he ?_
    have I2 : Inv X pins σ H1 { s1 with heap := g } := I1.kept (t' := s1.toks) hk
    refine ⟨s1.heap.objs.size + 1, [s1.heap.objs.size + 1, s1.heap.objs.size], _, _, H1, rfl, I2, turn_enumT a (s1.heap.objs.size + 1) s1.heap.objs.size (Nat.ne_of_lt la) (Nat.ne_of_gt (Nat.lt_succ_of_lt la)), ⟨⟨.none, he⟩, hit, Nat.succ_ne_self _⟩, fun b hb => ?_, q⟩
    have lb : s1.heap.objs.size ≤ b := by
      rcases (show b = s1.heap.objs.size + 1 ∨ b = s1.heap.objs.size by simpa using hb) with z | z
      · exact z ▸ Nat.le_succ _
      · exact z ▸ Nat.le_refl _
    exact I1.fpOk lb (I1.hok.fresh lb)
def uEnum (K : PySem.W.Frag) (ta : TA) : TI := fun σ H R => iEnum K ta σ H R ∨ iEnumT K ta σ H R
theorem ui_enum {e : Expr} {ta : TA} {p pos tpos : Pos} {elts : List Expr} {kk : Nat} (hg : Gl X "enumerate") (hm : X.mg "enumerate" = none) (ha : PA X [e] ta) (hs : starEach [e] X.env = [(false, eval e X.env)] := by rfl) : PI X (.Tuple elts kk tpos) (.Call (.Name "enumerate" p) [e] [] pos) (uEnum X.K ta) :=
  pi_or (pi_enum hg hm ha hs) (pi_enumT hg hm ha hs)
/-- as ut, the facts K told (within a comprehension) -/
theorem utK (K : PySem.W.Frag) {e : Expr} {te : TE} (h : PE X e te) (hK : X.K = K := by rfl) (he : ∀ whole, isTrue e X.env whole = (do let v ← whole; standAt e.pos; holding [v] (truthy v)) := by intro _; rfl) : PT X e (uT K te) := by
  subst hK
  exact ut h he
/-- in: a sign in a text, a flat thing in a list or a tuple -/
def uIn (K : PySem.W.Frag) (neg : Bool) : R2 := fun x y H Q => match x, y with
  | .str c, .str z => c.cps.size = 1 ∧ Q (.bl (if neg then !decide (c.cps.toList.headD 0 ∈ z.cps.toList) else decide (c.cps.toList.headD 0 ∈ z.cps.toList))) H
  | x, .ref p => ∃ xs, (SqL K H p xs ∨ SqT K H p xs) ∧ flatV x = true ∧ xs.all flatV = true ∧ Q (.bl (if neg then !inV x xs else inV x xs)) H
  | _, _ => False
theorem one_sign {c : Str} (h : c.cps.size = 1) : c = ⟨#[c.cps.toList.headD 0]⟩ := by
  obtain ⟨⟨l⟩⟩ := c
  match l, h with
  | [a], _ => rfl
theorem uo_in : OpR X (compareOp .In) (uIn X.K false) := by
  intro pins s σ H x y v u Q I rx ry h
  unfold uIn at h
  split at h
  · rename_i c z
    exact op_in_sign pins s σ H _ _ v u Q I rx ry ⟨_, z, congrArg V.str (one_sign h.1), rfl, h.2⟩
  · obtain ⟨xs, a, b, c, d⟩ := h
    exact op_in_seq pins s σ H _ _ v u Q I rx ry ⟨_, xs, rfl, a, b, c, d⟩
  · exact h.elim
end
theorem walk_enumT {K : PySem.W.Frag} {a : Addr} {xs : List V} : Walk (ItE K a) xs.length (fun H => SqT K H a xs) (YPair (fun i => some (.int (i : Nat))) (fun i => xs[i]?)) := by
  refine ⟨fun i _ hi q => ⟨xs, xs[i], q, by simp [hi]⟩, fun _ q => ⟨xs, q, Nat.le_refl _⟩, fun i H v H' _ q y => ?_⟩
  obtain ⟨T, x, h1, h2, h3, h4⟩ := y
  exact ⟨T, _, x, h1, h2, h3, rfl, h4 xs q⟩

section
variable {X : Cx}
theorem uo_notIn : OpR X (compareOp .NotIn) (uIn X.K true) := by
  intro pins s σ H x y v u Q I rx ry h
  unfold uIn at h
  split at h
  · rename_i c z
    exact op_notIn_sign pins s σ H _ _ v u Q I rx ry ⟨_, z, congrArg V.str (one_sign h.1), rfl, h.2⟩
  · obtain ⟨xs, a, b, c, d⟩ := h
    exact op_notIn_seq pins s σ H _ _ v u Q I rx ry ⟨_, xs, rfl, a, b, c, d⟩
  · exact h.elim
/-- a slice of a text, a list, a tuple -/
def uSl (K : PySem.W.Frag) : V → Option Int → Option Int → Hp → VK → Prop := fun x lo hi H Q => match x with
  | .str z => z.length ≤ sizeLine ∧ Q (.str (cutS z lo hi)) H
  | .ref a => rSlL K (.ref a) lo hi H Q ∨ rSlA K (.ref a) lo hi H Q
  | _ => False
theorem us_sl : SlR X (uSl X.K) := by
  intro pins s σ H x v vl vu lo hi sl Q I rx hs pl pu h
  unfold uSl at h
  split at h
  · exact sl_str pins s σ H _ v vl vu lo hi sl Q I rx hs pl pu ⟨_, rfl, h⟩
  · exact (sl_list.or sl_tupA) pins s σ H _ v vl vu lo hi sl Q I rx hs pl pu h
  · exact h.elim
/-- tuple(xs), xs a list -/
def uTup (K : PySem.W.Frag) : List V → Hp → VK → Prop := fun xs H Q => match xs with
  | [.ref p] => ∃ ys, (SqL K H p ys ∧ ∀ l, H l = none → Q (.ref l) (upd H l (.tup ys))) ∨ (SqT K H p ys ∧ Q (.ref p) H)
  | _ => False
theorem uk_tup : CallR X (.type "tuple") (uTup X.K) := by
  intro pins s σ H xs us Q I r h
  unfold uTup at h
  split at h
  · obtain ⟨ys, h⟩ := h
    exact call_tuple_of pins s σ H _ us Q I r ⟨_, ys, rfl, h⟩
  · exact h.elim
end
section
variable {K : PySem.W.Frag} {H : Hp} {Q : VK} {σ : L2.St} {neg : Bool}
theorem g_lcU {wi : TI} {g : TG} {tt : TT} {te : TE} {vs : List Nat} (h : wi σ H fun J H1 => ∀ D, H1 D = none → ∃ W : Nat → Nat → Hp → Prop, (∃ m, W 0 m (upd H1 D (.lst []))) ∧ ∀ i m H, W i m H →
    (J.stop i H ∧ Q (.ref D) H) ∨ (J.go i H ∧ ∃ Nx : Hp → Prop, (∀ H', Nx H' → ∃ m', m' < m ∧ W (i + 1) m' H') ∧ ∀ x H', J.yld i H x H' → g x (wipe σ vs) H' fun σ2 H2 => wipe σ2 vs = wipe σ vs ∧ tt σ2 H2 fun b H3 =>
      if b = true then te σ2 H3 fun y H4 => ∃ acc, H4 D = some (.lst acc) ∧ acc.length < sizeLine ∧ Nx (upd H4 D (.lst (acc ++ [y]))) else Nx H3)) : tLc wi g tt te vs σ H Q := h
theorem g_yes {q : Bool → Hp → Prop} (h : q true H) : tYes σ H q := h
theorem g_inS {c z : Str} (e : c.cps.size = 1) (h : Q (.bl (decide (c.cps.toList.headD 0 ∈ z.cps.toList))) H) : uIn K false (.str c) (.str z) H Q := ⟨e, h⟩
theorem g_slS {z : Str} {lo hi : Option Int} (e : z.length ≤ 1000000) (h : Q (.str (cutS z lo hi)) H) : uSl K (.str z) lo hi H Q := ⟨Nat.le_trans e (by decide), h⟩
theorem g_slLU {a : Addr} {xs : List V} {lo hi : Option Int} (ha : H a = some (.lst xs)) (h : ∀ p, H p = none → Q (.ref p) (upd H p (.lst (cutV xs lo hi)))) : uSl K (.ref a) lo hi H Q := .inl ⟨a, xs, rfl, sqL ha, h⟩
theorem g_ixS {z : Str} {i : Int} {c : Nat} (e : atI z.cps.toList i = some c) (hz : z.length ≤ 1000000) (h : Q (.str ⟨#[c]⟩) H) : uIx K (.str z) (.int i) H Q := ⟨Nat.le_trans hz (by decide), c, e, h⟩
theorem g_tupOf {p : Addr} {ys : List V} (hp : H p = some (.lst ys)) (h : ∀ l, H l = none → Q (.ref l) (upd H l (.tup ys))) : uTup K [.ref p] H Q := ⟨ys, .inl ⟨sqL hp, h⟩⟩
theorem g_lenStr {z : Str} (e : z.length ≤ 1000000) (h : Q (.int (z.length : Nat)) H) : uLen K [.str z] H Q := ⟨Nat.le_trans e (by decide), h⟩
theorem g_seqLs {td : TE} {R : It → Hp → Prop} (h : td σ H fun x H1 => ∃ a, x = .ref a ∧ (∃ xs, SqL K H1 a xs) ∧ R (Itl K a) H1) : uSeq K td σ H R := .inl h
theorem g_seqTs {td : TE} {R : It → Hp → Prop} (h : td σ H fun x H1 => ∃ a, x = .ref a ∧ (∃ xs, SqT K H1 a xs) ∧ R (Itt K a) H1) : uSeq K td σ H R := .inr (.inl h)
theorem g_enL {ta : TA} {R : It → Hp → Prop} (h : ta σ H fun vs H1 => ∃ a xs, vs = [.ref a] ∧ SqL K H1 a xs ∧ R (Ite K a) H1) : uEnum K ta σ H R := .inl h
theorem g_enT {ta : TA} {R : It → Hp → Prop} (h : ta σ H fun vs H1 => ∃ a xs, vs = [.ref a] ∧ SqT K H1 a xs ∧ R (ItE K a) H1) : uEnum K ta σ H R := .inr h
theorem g_all {a : Addr} {bs : List Bool} (ha : H a = some (.lst (bs.map V.bl))) (h : Q (.bl (bs.all id)) H) : rAll K [.ref a] H Q := ⟨a, bs, rfl, sqL ha, h⟩
theorem g_seqSs {td : TE} {R : It → Hp → Prop} (h : td σ H fun v H1 => ∃ x, v = .str x ∧ R (Its x) H1) : uSeq K td σ H R := .inr (.inr h)
/-! dicts -/
section
variable {td ty tv tx : TE} {D : Ends} {p : Addr} {kvs : List (L2.Key × V)} {s : Str} {v z : V}
theorem g_dg (h : td σ H fun x H1 => ty σ H1 fun y H2 => ∃ a v, x = .ref a ∧ DGet H2 a y (some v) ∧ Q v H2) : tDGet td ty σ H Q := h
theorem g_dgS {P : V → Prop} (hp : H p = some (.dK kvs)) (e : valV kvs (.inr s) = some v) (h : P v) : ∃ a v, V.ref p = .ref a ∧ DGet H a (.str s) (some v) ∧ P v := ⟨p, v, rfl, by rw [← e]; exact DGet.k (k := .inr s) hp, h⟩
theorem g_di (h : ty σ H fun y H1 => td σ H1 fun x H2 => ∃ a o, x = .ref a ∧ DGet H2 a y o ∧ Q (.bl o.isSome) H2) : tDIn ty td σ H Q := h
theorem g_dni (h : ty σ H fun y H1 => td σ H1 fun x H2 => ∃ a o, x = .ref a ∧ DGet H2 a y o ∧ Q (.bl (!o.isSome)) H2) : tDNotIn ty td σ H Q := h
theorem g_diS {P : Option V → Prop} (hp : H p = some (.dK kvs)) (h : P (valV kvs (.inr s))) : ∃ a o, V.ref p = .ref a ∧ DGet H a (.str s) o ∧ P o := ⟨p, _, rfl, DGet.k (k := .inr s) hp, h⟩
theorem g_dp (h : tv σ H fun v H1 => td σ H1 fun x H2 => ty σ H2 fun y H3 => ∃ a H4, x = .ref a ∧ DPut H3 a y v H4 ∧ D.nx σ H4) : sDPut td ty tv D σ H := h
theorem g_dpS {P : Hp → Prop} (hp : H p = some (.dK kvs)) (hl : kvs.length ≤ 1000000) (h : P (upd H p (.dK (putK kvs (.inr s) v)))) : ∃ a H4, V.ref p = .ref a ∧ DPut H a (.str s) v H4 ∧ P H4 := ⟨p, _, rfl, DPut.k (k := .inr s) hp (Nat.lt_of_le_of_lt hl (by decide)), h⟩
theorem g_ds (h : td σ H fun x H1 => ∃ a, x = .ref a ∧ IsD H1 a ∧ ty σ H1 fun y H2 => tx σ H2 fun z H3 => ∃ (kvs : List (L2.Key × V)) (k : L2.Key), H3 a = some (.dK kvs) ∧ y = kV k ∧ kvs.length < sizeLine ∧
  (∀ v, valV kvs k = some v → Q v H3) ∧ (valV kvs k = none → Q z (upd H3 a (.dK (putK kvs k z))))) : tDSetd td ty tx σ H Q := h
theorem isD_of (hp : H p = some (.dK kvs)) : IsD H p := .inl ⟨kvs, .inl hp⟩
end
end
/-! ### names and woods -/
def lettersS : Str := "abcdefghijklmnopqrstuvwxyz"
def isName (s : Str) : Bool := !decide (s = "kind") && decide (1 ≤ s.length ∧ s.length ≤ 6) && s.cps.toList.all fun c => decide (c ∈ lettersS.cps.toList)
/-- kind, its makers: name and parts -/
abbrev Mk := Str × List Str
abbrev Wd := List (Str × List Mk)
def partsD (ps : List Str) : D := .tup (ps.map D.str)
def mkD (m : Mk) : D := .tup [.str m.1, partsD m.2]
def kindD (k : Str × List Mk) : D := .tup [.str k.1, .tup (k.2.map mkD)]
def woodD (w : Wd) : D := .tup (w.map kindD)
def spIsName : Sp := fun vs H Q _ => ∃ s : Str, vs = [.str s] ∧ s.length ≤ 100000 ∧ ∀ H', Ex H H' → Q (.bl (isName s)) H'
theorem Rep.strI {H : Hp} {s : Str} {v : V} (h : Rep H (.str s) v) : v = .str s := by simpa only [Rep] using h
theorem Rep.twoI {H : Hp} {d e : D} {v : V} (h : Rep H (.tup [d, e]) v) : ∃ a x y, v = .ref a ∧ H a = some (.tup [x, y]) ∧ Rep H d x ∧ Rep H e y := by
  simp only [Rep, Reps] at h
  obtain ⟨a, _, rfl, ha, x, _, rfl, rx, y, _, rfl, ry, rfl⟩ := h
  exact ⟨a, x, y, rfl, ha, rx, ry⟩
theorem Rep.tupI {H : Hp} {ds : List D} {v : V} (h : Rep H (.tup ds) v) : ∃ a xs, v = .ref a ∧ H a = some (.tup xs) ∧ Reps H ds xs := by simpa only [Rep] using h
theorem Reps.strs {H : Hp} : ∀ {ps : List Str} {vs : List V}, Reps H (ps.map D.str) vs → vs = ps.map V.str
  | [], vs, h => by simpa only [List.map, Reps] using h
  | p :: ps, vs, h => by
    simp only [List.map, Reps, Rep] at h
    obtain ⟨v, r, rfl, rfl, h⟩ := h
    rw [Reps.strs h]
    rfl
theorem strsReps {H : Hp} : ∀ ps : List Str, Reps H (ps.map D.str) (ps.map V.str)
  | [] => by simp only [List.map, Reps]
  | p :: ps => by
    simp only [List.map, Reps]
    exact ⟨_, _, rfl, Rep.s p, strsReps ps⟩
/-- the i-th kind of a wood -/
theorem wood_at {H : Hp} {w : Wd} {xs : List V} {i : Nat} {x : V} (h : Reps H (w.map kindD) xs) (hx : xs[i]? = some x) : ∃ k a c ys, w[i]? = some k ∧ x = .ref a ∧ H a = some (.tup [.str k.1, .ref c]) ∧ H c = some (.tup ys) ∧ Reps H (k.2.map mkD) ys := by
  obtain ⟨d, hd, r⟩ := h.get hx
  rw [List.getElem?_map] at hd
  cases e : w[i]? with
  | none => rw [e] at hd; cases hd
  | some k =>
    rw [e] at hd
    cases hd
    obtain ⟨a, y, z, rfl, ha, ry, rz⟩ := Rep.twoI r
    cases ry.strI
    obtain ⟨c, ys, rfl, hc, rs⟩ := rz.tupI
    exact ⟨k, a, c, ys, rfl, rfl, ha, hc, rs⟩
/-- the i-th maker of a kind -/
theorem mk_at {H : Hp} {ms : List Mk} {xs : List V} {i : Nat} {x : V} (h : Reps H (ms.map mkD) xs) (hx : xs[i]? = some x) : ∃ m a c, ms[i]? = some m ∧ x = .ref a ∧ H a = some (.tup [.str m.1, .ref c]) ∧ H c = some (.tup (m.2.map V.str)) := by
  obtain ⟨d, hd, r⟩ := h.get hx
  rw [List.getElem?_map] at hd
  cases e : ms[i]? with
  | none => rw [e] at hd; cases hd
  | some m =>
    rw [e] at hd
    cases hd
    obtain ⟨a, y, z, rfl, ha, ry, rz⟩ := Rep.twoI r
    cases ry.strI
    obtain ⟨c, ys, rfl, hc, rs⟩ := rz.tupI
    cases rs.strs
    exact ⟨m, a, c, rfl, rfl, ha, hc⟩
/-! ### comprehensions that map -/
section
variable {J : It} {n : Nat} {G : Hp → Prop} {Y : Nat → Hp → V → Hp → Prop} {g : TG} {te : TE} {vs : List Nat} {σ : L2.St} {H1 : Hp} {D : Addr} {Qd : Hp → Prop}
/-- nothing but new objects; R of each item -/
theorem lc_mapE (w : Walk J n G Y) (R : Nat → Hp → V → Prop) (hn : n ≤ 1000000) (hD : H1 D = none) (hR : ∀ j H H' v, Tk H H' → R j H v → R j H' v) (hG : ∀ H, Ex H1 H → G H)
    (hs : ∀ i x H H' (P : VK) (N : Hp → Prop), i < n → Ex H1 H → Y i H x H' → (∀ y H4, Ex H H4 → R i H4 y → P y H4) → g x (wipe σ vs) H' fun σ2 H2 => wipe σ2 vs = wipe σ vs ∧ tYes σ2 H2 fun b H3 => if b = true then te σ2 H3 P else N H3)
    (hd : ∀ H' acc, Ex H1 H' → H' D = some (.lst acc) → acc.length = n → (∀ j v, acc[j]? = some v → R j H' v) → Qd H') :
    ∃ W : Nat → Nat → Hp → Prop, (∃ m, W 0 m (upd H1 D (.lst []))) ∧ ∀ i m H, W i m H →
      (J.stop i H ∧ Qd H) ∨ (J.go i H ∧ ∃ Nx : Hp → Prop, (∀ H', Nx H' → ∃ m', m' < m ∧ W (i + 1) m' H') ∧ ∀ x H', J.yld i H x H' → g x (wipe σ vs) H' fun σ2 H2 => wipe σ2 vs = wipe σ vs ∧ tYes σ2 H2 fun b H3 =>
        if b = true then te σ2 H3 fun y H4 => ∃ acc, H4 D = some (.lst acc) ∧ acc.length < sizeLine ∧ Nx (upd H4 D (.lst (acc ++ [y]))) else Nx H3) := by
  refine lc_it w (fun i H => Ex H1 H ∧ ∃ acc, H D = some (.lst acc) ∧ acc.length = i ∧ ∀ j v, acc[j]? = some v → R j H v) ⟨Ex.new hD, [], upd_same, rfl, fun j v z => by simp at z⟩ (fun i H _ p => hG H p.1) ?_ fun H p => ?_
  · rintro i x H H' hi ⟨e, acc, ha, hl, hr⟩ y
    refine hs i x H H' _ _ hi e y fun u H4 e4 r4 => ?_
    have a4 := e4 _ _ ha
    refine ⟨acc, a4, Nat.lt_of_le_of_lt (by omega : acc.length ≤ 1000000) (by decide), (e.trans e4).at_new hD, _, upd_same, by rw [List.length_append, hl]; rfl, fun j v hj => ?_⟩
    have b5 : Tk H4 (upd H4 D (.lst (acc ++ [u]))) := ((But.refl D H4).upd).tkl a4
    by_cases c : j < acc.length
    · rw [List.getElem?_append_left c] at hj
      exact hR _ _ _ _ b5 (hR _ _ _ _ e4.tk (hr j v hj))
    · rw [List.getElem?_append_right (by omega)] at hj
      have ej : j = i := by
        have := (List.getElem?_eq_some_iff.1 hj).1
        simp at this
        omega
      subst ej
      rw [hl, Nat.sub_self] at hj
      cases hj
      exact hR _ _ _ _ b5 r4
  · obtain ⟨e, acc, ha, hl, hr⟩ := p
    exact hd H acc e ha hl hr
end
end Bk

set_option Elab.async false
set_option linter.all false
set_option maxRecDepth 100000
set_option maxHeartbeats 4000000
/-! Bk11: a list's +=; equality by data; dicts of pairs; maps with draws. -/
namespace Bk
open PySem PySem.Spec PyProof.Rows L2
section
variable {M : Model} {A : Around} {E : Value → Shared → Prop} {s : Shared}
theorem iaddL {a b : Value} {Q : Value → Shared → Prop} (ha : s.TypeIs a "list") (hb : s.TypeIs b "list") (hc : wpAny M A (call (.builtin "list.__iadd__") [a, b]) Q E s) : wpAny M A (inplaceOp .Add a b) Q E s := by
  have z1 : seqSlot? (.type "list") (dunderI "add") = pure (some (.builtin "list.__iadd__")) := PySem.seqSlot_of F.slot_list_iadd.lookup (by decide +kernel)
  have z2 : isSeqSlot (some (.builtin "list.__iadd__")) = true := by decide +kernel
  have z0 : fillsInplaceSlot (.type "list") "add" (Operator.Add == .Add) = pure false := by
    unfold fillsInplaceSlot
    show (typeLookup (.type "list") (dunderI "add") >>= fun x => pure (x.isSome && !isSeqSlot x)) = pure false
    rw [F.slot_list_iadd.lookup, pure_bind, z2] <;> rfl
  unfold inplaceOp
  refine wpAny_holding (wpAny_bind (wpAny_typeOf ha (wpAny_bind (wpAny_of_eq z0 ?_))))
  refine (show wpAny M A (if false = true then _ else _) Q E s from ?_); rw [if_neg Bool.false_ne_true]
  refine wpAny_bind (wpAny_binaryOp1_none (nm := "add") ha hb noFill_list_add (wpAny_bind (wpAny_of_eq z1 ?_)))
  exact wpAny_bind (wpAny_rule hc)
end
section
variable {X : Cx}
/-- xs += ys, both lists: the left one grows -/
def uIadd : V → V → Hp → VK → Prop := fun x y H Q => match x, y with
  | .int i, .int j => Q (.int (i + j)) H
  | .ref l, .ref b => ∃ xs zs, H l = some (.lst xs) ∧ H b = some (.lst zs) ∧ xs.length + zs.length ≤ sizeLine ∧ Q (.ref l) (upd H l (.lst (xs ++ zs)))
  | _, _ => False
theorem ip_catL : PIp X .Add uIadd := by
  intro pins s σ H x y v u Q I rx ry h
  unfold uIadd at h
  split at h
  · exact ip_add pins s σ H _ _ v u Q I rx ry ⟨_, _, rfl, rfl, h⟩
  · obtain ⟨xs, zs, hH, hB, hz, q⟩ := h
    cases rx
    cases ry
    obtain ⟨z, its, n, r, hl, e⟩ := I.lstM hH
    obtain ⟨z2, its2, n2, r2, hl2, e2⟩ := I.lstM hB
    have s1 : its.toArray.size + its2.toArray.size ≤ sizeLine := by simp only [List.size_toArray]; omega
    have s2 : ¬ (!its.toArray.isEmpty && Builtin.List.listTooLong (its.toArray.size + its2.toArray.size)) = true := by simp only [notLongL s1, Bool.and_false]; decide
    refine iaddL ⟨_, e, rfl⟩ ⟨_, e2, rfl⟩ (call_meets F.slot_list_iadd ⟨_, e, rfl⟩ F.entry_list_iadd (F.args_list_iadd_2 _ _) (AutoSeq1.list___iadd___list_list_0 _ its.toArray n _ its2.toArray n2 s2 (by simp only [List.size_toArray]; omega) (by omega)) ⟨e, e2, ?_⟩)
    exact ⟨.ref _, _, I.lset (its' := its ++ its2) hH e (by simp) (r.append r2) (by simp only [List.length_append]; omega), rfl, q⟩
  · exact h.elim
end
/-! ### kinds and makers by name -/
/-- (name, number) -/
def kvsFrom : Nat → Wd → List (L2.Key × V)
  | _, [] => []
  | n, k :: r => (.inr k.1, .int (n : Nat)) :: kvsFrom (n + 1) r
theorem paired_of {H : Hp} : ∀ (w : Wd) (n : Nat) (acc : List V), acc.length = w.length → (∀ j v, acc[j]? = some v → ∃ p k, v = .ref p ∧ w[j]? = some k ∧ H p = some (.tup [.str k.1, .int ((n + j : Nat) : Int)])) →
    ∃ ps : List Addr, acc = ps.map V.ref ∧ ∀ K : PySem.W.Frag, Paired (fun p (kv : L2.Key × V) => SqT K H p [kV kv.1, kv.2]) ps (kvsFrom n w)
  | [], n, acc, hl, _ => ⟨[], List.eq_nil_of_length_eq_zero hl, fun _ => .nil⟩
  | k :: w, n, [], hl, _ => by cases hl
  | k :: w, n, v :: acc, hl, h => by
    obtain ⟨p, k', rfl, ek, hp⟩ := h 0 v rfl
    cases ek
    obtain ⟨ps, rfl, hps⟩ := paired_of (H := H) w (n + 1) acc (Nat.succ.inj hl) fun j u hu => by
      obtain ⟨q, k2, a1, a2, a3⟩ := h (j + 1) u hu
      refine ⟨q, k2, a1, a2, ?_⟩
      rw [a3, Nat.add_right_comm n 1 j, Nat.add_assoc n j 1]
    exact ⟨p :: ps, rfl, fun K => .cons (sqT hp) (hps K)⟩
def spKinds : Sp := fun vs H Q _ => ∃ (w : Wd) (v : V), vs = [v] ∧ Rep H (woodD w) v ∧ w.length ≤ 1000 ∧ ∀ d H', H d = none → Ex H H' → H' d = some (.dK (mergeK [] (kvsFrom 0 w))) → Q (.ref d) H'
/-- makers' names, in order -/
def mkNames (w : Wd) : List Str := (w.map fun k => k.2.map Prod.fst).flatten
def spMakersOf : Sp := fun vs H Q _ => ∃ (w : Wd) (v : V), vs = [v] ∧ Rep H (woodD w) v ∧ (mkNames w).length ≤ 1000 ∧ (∀ k ∈ w, k.2.length ≤ 1000) ∧ ∀ l H', H l = none → Ex H H' → H' l = some (.lst ((mkNames w).map V.str)) → Q (.ref l) H'
section
variable {K : PySem.W.Frag} {H : Hp} {Q : VK}
theorem g_dictP {f : List V → Hp → VK → Prop} {a : Addr} {ps : List Addr} {kvs : List (L2.Key × V)} (ha : H a = some (.lst (ps.map V.ref))) (hp : Paired (fun p (kv : L2.Key × V) => SqT K H p [kV kv.1, kv.2]) ps kvs) (h : ∀ p, H p = none → Q (.ref p) (upd H p (.dK (mergeK [] kvs)))) :
    ∃ (a' : Addr) (ps : List Addr) (kvs : List (L2.Key × V)), [V.ref a] = [.ref a'] ∧ SqL K H a' (ps.map V.ref) ∧ Paired (fun p (kv : L2.Key × V) => SqT K H p [kV kv.1, kv.2]) ps kvs ∧ ∀ p, H p = none → Q (.ref p) (upd H p (.dK (mergeK [] kvs))) := ⟨a, ps, kvs, rfl, sqL ha, hp, h⟩
theorem g_augL {σ : L2.St} {i : Nat} {te : TE} {ti : V → V → Hp → VK → Prop} {D : Ends} {x : V} (hx : σ[i]? = some (some x)) (h : te σ H fun y H1 => ti x y H1 fun z H2 => D.nx (σ.set i (some z)) H2) : tAug i te ti D σ H := ⟨x, hx, h⟩
theorem g_iadd {l b : Addr} {xs zs : List V} (hl : H l = some (.lst xs)) (hb : H b = some (.lst zs)) (hz : xs.length + zs.length ≤ 1000000) (h : Q (.ref l) (upd H l (.lst (xs ++ zs)))) : uIadd (.ref l) (.ref b) H Q := ⟨xs, zs, hl, hb, Nat.le_trans hz (by decide), h⟩
end
/-! ### the makers' table -/
/-- the number of a kind by its name -/
def kno (w : Wd) (s : Str) : Int := match valV (mergeK [] (kvsFrom 0 w)) (.inr s) with
  | some (.int i) => i
  | _ => 0
theorem kvsFrom_int : ∀ (n : Nat) (w : Wd), ∀ p ∈ kvsFrom n w, ∃ i : Int, p.2 = .int i
  | _, [], p, h => by cases h
  | n, k :: w, p, h => by
    rcases List.mem_cons.1 h with rfl | h
    · exact ⟨_, rfl⟩
    · exact kvsFrom_int (n + 1) w p h
theorem merge_mem : ∀ (more kvs : List (L2.Key × V)) (k : L2.Key), (∀ p ∈ more, ∃ i : Int, p.2 = .int i) → (∀ v, valV kvs k = some v → ∃ i : Int, v = .int i) → ((∃ v, valV kvs k = some v) ∨ k ∈ more.map Prod.fst) → ∃ i : Int, valV (mergeK kvs more) k = some (.int i)
  | [], kvs, k, _, h2, h3 => by
    rcases h3 with ⟨v, hv⟩ | h3
    · obtain ⟨i, rfl⟩ := h2 v hv
      exact ⟨i, hv⟩
    · cases h3
  | p :: more, kvs, k, h1, h2, h3 => by
    show ∃ i : Int, valV (mergeK (putK kvs p.1 p.2) more) k = some (.int i)
    refine merge_mem more _ k (fun q hq => h1 q (List.mem_cons_of_mem _ hq)) (fun v hv => ?_) ?_
    · rw [valV_put] at hv
      split at hv
      · cases hv
        exact h1 p List.mem_cons_self
      · exact h2 v hv
    · by_cases c : k = p.1
      · exact .inl ⟨p.2, by rw [valV_put, if_pos c]⟩
      · rcases h3 with ⟨v, hv⟩ | h3
        · exact .inl ⟨v, by rw [valV_put, if_neg c]; exact hv⟩
        · rcases List.mem_cons.1 h3 with h3 | h3
          · exact absurd h3 c
          · exact .inr h3
theorem kvsFrom_keys : ∀ (n : Nat) (w : Wd), (kvsFrom n w).map Prod.fst = w.map fun k => Sum.inr k.1
  | _, [] => rfl
  | n, k :: w => by
    show _ :: _ = _ :: _
    rw [kvsFrom_keys (n + 1) w]
theorem kno_get {w : Wd} {s : Str} (h : s ∈ w.map Prod.fst) : valV (mergeK [] (kvsFrom 0 w)) (.inr s) = some (.int (kno w s)) := by
  obtain ⟨i, e⟩ := merge_mem (kvsFrom 0 w) [] (.inr s) (kvsFrom_int 0 w) (fun v z => by cases z) (.inr (by
    rw [kvsFrom_keys]
    obtain ⟨k, hk, rfl⟩ := List.mem_map.1 h
    exact List.mem_map.2 ⟨k, hk, rfl⟩))
  unfold kno
  rw [e]
def tabFrom : Nat → Wd → List (Nat × Mk)
  | _, [] => []
  | n, k :: r => k.2.map (fun m => (n, m)) ++ tabFrom (n + 1) r
theorem tab_split : ∀ (w : Wd) (n i : Nat) (k : Str × List Mk), w[i]? = some k → tabFrom n w = tabFrom n (w.take i) ++ k.2.map (fun m => (n + i, m)) ++ tabFrom (n + i + 1) (w.drop (i + 1))
  | [], n, i, k, h => by simp at h
  | a :: w, n, 0, k, h => by
    cases h
    simp [tabFrom]
  | a :: w, n, i + 1, k, h => by
    have z := tab_split w (n + 1) i k h
    have e : n + 1 + i = n + (i + 1) := by omega
    simp only [tabFrom, List.take_succ_cons, List.drop_succ_cons, z, e, List.append_assoc]
theorem tab_take : ∀ (w : Wd) (n i : Nat) (k : Str × List Mk), w[i]? = some k → tabFrom n (w.take (i + 1)) = tabFrom n (w.take i) ++ k.2.map (fun m => (n + i, m))
  | [], n, i, k, h => by simp at h
  | a :: w, n, 0, k, h => by
    cases h
    simp [tabFrom]
  | a :: w, n, i + 1, k, h => by
    have z := tab_take w (n + 1) i k h
    have e : n + 1 + i = n + (i + 1) := by omega
    simp only [tabFrom, List.take_succ_cons, z, e, List.append_assoc]
theorem tab_mem : ∀ (w : Wd) (n i : Nat) (k : Str × List Mk) (m : Mk), w[i]? = some k → m ∈ k.2 → (n + i, m) ∈ tabFrom n w := fun w n i k m h hm => by
  rw [tab_split w n i k h]
  exact List.mem_append_left _ (List.mem_append_right _ (List.mem_map.2 ⟨m, hm, rfl⟩))
structure TabPre (w : Wd) : Prop where
  nd : ((tabFrom 0 w).map fun e => e.2.1).Nodup
  parts : ∀ k ∈ w, ∀ m ∈ k.2, (∀ s ∈ m.2, s ∈ w.map Prod.fst) ∧ m.2.length ≤ 1000
  wide : w.length ≤ 1000
  many : (tabFrom 0 w).length ≤ 1000
def EntryAt (w : Wd) (H : Hp) (kvs : List (L2.Key × V)) (e : Nat × Mk) : Prop := ∃ p t, valV kvs (.inr e.2.1) = some (.ref p) ∧ H p = some (.tup [.int (e.1 : Nat), .ref t]) ∧ H t = some (.tup (e.2.2.map fun s => .int (kno w s)))
def TabOk (w : Wd) (H : Hp) (kvs : List (L2.Key × V)) (L : List (Nat × Mk)) : Prop := kvs.length ≤ L.length ∧ ∀ e ∈ L, EntryAt w H kvs e
theorem TabOk.tk {w : Wd} {H H' : Hp} {kvs : List (L2.Key × V)} {L : List (Nat × Mk)} (t : Tk H H') (h : TabOk w H kvs L) : TabOk w H' kvs L := ⟨h.1, fun e he => by
  obtain ⟨p, q, a, b, c⟩ := h.2 e he
  exact ⟨p, q, a, t _ _ b, t _ _ c⟩⟩
theorem putK_len (kvs : List (L2.Key × V)) (k : L2.Key) (v : V) : (putK kvs k v).length ≤ kvs.length + 1 := by
  unfold putK
  split
  · rw [List.length_map]; omega
  · rw [List.length_append, List.length_singleton]; omega
theorem TabOk.put {w : Wd} {H : Hp} {kvs : List (L2.Key × V)} {L : List (Nat × Mk)} {e : Nat × Mk} {p t : Addr} (h : TabOk w H kvs L) (hn : e.2.1 ∉ L.map fun e => e.2.1) (hp : H p = some (.tup [.int (e.1 : Nat), .ref t])) (ht : H t = some (.tup (e.2.2.map fun s => .int (kno w s)))) : TabOk w H (putK kvs (.inr e.2.1) (.ref p)) (L ++ [e]) := by
  refine ⟨?_, fun f hf => ?_⟩
  · rw [List.length_append, List.length_singleton]
    have := putK_len kvs (.inr e.2.1) (.ref p)
    have := h.1
    omega
  · rcases List.mem_append.1 hf with hf | hf
    · obtain ⟨p', t', a, b, c⟩ := h.2 f hf
      refine ⟨p', t', ?_, b, c⟩
      rw [valV_put, if_neg (fun z => hn ?_)]
      · exact a
      · exact List.mem_map.2 ⟨f, hf, Sum.inr.inj z⟩
    · rw [List.mem_singleton.1 hf]
      exact ⟨p, t, by rw [valV_put, if_pos rfl], hp, ht⟩
def spTable : Sp := fun vs H Q _ => ∃ (w : Wd) (v : V), vs = [v] ∧ Rep H (woodD w) v ∧ TabPre w ∧ ∀ d kvs H', Ex H H' → H' d = some (.dK kvs) → TabOk w H' kvs (tabFrom 0 w) → Q (.ref d) H'
def spKindOf : Sp := fun vs H Q _ => ∃ (w : Wd) (v : V) (e : Nat × Mk), vs = [v, .str e.2.1] ∧ Rep H (woodD w) v ∧ TabPre w ∧ e ∈ tabFrom 0 w ∧ ∀ H', Ex H H' → Q (.int (e.1 : Nat)) H'
def spPartsOf : Sp := fun vs H Q _ => ∃ (w : Wd) (v : V) (e : Nat × Mk), vs = [v, .str e.2.1] ∧ Rep H (woodD w) v ∧ TabPre w ∧ e ∈ tabFrom 0 w ∧ ∀ t H', Ex H H' → H' t = some (.tup (e.2.2.map fun s => .int (kno w s))) → Q (.ref t) H'
theorem g_dnew {σ : L2.St} {H : Hp} {Q : VK} (h : ∀ p, H p = none → Q (.ref p) (upd H p (.dK []))) : tDNewK σ H Q := h
/-! ### a wood that is let by -/
structure WoodOk (w : Wd) : Prop where
  kinds : 1 ≤ w.length ∧ w.length ≤ 4
  name : ∀ k ∈ w, isName k.1 = true
  knd : (w.map Prod.fst).Nodup
  mkr : ∀ k ∈ w, ∀ m ∈ k.2, isName m.1 = true ∧ m.2.length ≤ 2 ∧ ∀ s ∈ m.2, s ∈ w.map Prod.fst
  nd : ((tabFrom 0 w).map fun e => e.2.1).Nodup
  many : (tabFrom 0 w).length ≤ 12
theorem WoodOk.pre {w : Wd} (h : WoodOk w) : TabPre w := ⟨h.nd, fun k hk m hm => ⟨(h.mkr k hk m hm).2.2, Nat.le_trans (h.mkr k hk m hm).2.1 (by decide)⟩, Nat.le_trans h.kinds.2 (by decide), Nat.le_trans h.many (by decide)⟩
theorem isName_len {s : Str} (h : isName s = true) : s.length ≤ 100000 := by
  unfold isName at h
  simp only [Bool.and_eq_true, decide_eq_true_eq] at h
  omega
def spLookMakers : Sp := fun vs H Q _ => ∃ (w : Wd) (v : V) (d : Addr) (kvs : List (L2.Key × V)), vs = [v, .ref d] ∧ Rep H (woodD w) v ∧ H d = some (.dK kvs) ∧ (∀ s ∈ w.map Prod.fst, (valV kvs (.inr s)).isSome = true) ∧ WoodOk w ∧ ∀ H', Ex H H' → Q .non H'
def spLookWood : Sp := fun vs H Q _ => ∃ (w : Wd) (v : V), vs = [v] ∧ Rep H (woodD w) v ∧ WoodOk w ∧ ∀ H', Ex H H' → Q (.bl true) H'
def KeysIn (kvs : List (L2.Key × V)) (L : List Str) : Prop := kvs.length ≤ L.length ∧ (∀ s, (valV kvs (.inr s)).isSome = true ↔ s ∈ L)
theorem KeysIn.put {kvs : List (L2.Key × V)} {L : List Str} {s : Str} {v : V} (h : KeysIn kvs L) : KeysIn (putK kvs (.inr s) v) (L ++ [s]) := by
  refine ⟨?_, fun t => ?_⟩
  · have := putK_len kvs (.inr s) v
    have := h.1
    rw [List.length_append, List.length_singleton]
    omega
  · rw [valV_put, List.mem_append, List.mem_singleton]
    by_cases c : t = s
    · subst c
      rw [if_pos rfl]
      exact ⟨fun _ => .inr rfl, fun _ => rfl⟩
    · rw [if_neg (fun z => c (Sum.inr.inj z)), h.2 t]
      exact ⟨fun z => .inl z, fun z => z.resolve_right c⟩
theorem KeysIn.none {kvs : List (L2.Key × V)} {L : List Str} {s : Str} (h : KeysIn kvs L) (hn : s ∉ L) : valV kvs (.inr s) = none := by
  cases e : valV kvs (.inr s) with
  | none => rfl
  | some v => exact absurd ((h.2 s).1 (by rw [e]; rfl)) hn
theorem nodup_at {α : Type} {l : List α} {i : Nat} {x : α} (h : l.Nodup) (hx : l[i]? = some x) : x ∉ l.take i := by
  intro z
  obtain ⟨h1, h2⟩ := List.getElem?_eq_some_iff.1 hx
  have e : l = l.take i ++ x :: l.drop (i + 1) := by rw [← h2, List.getElem_cons_drop, List.take_append_drop]
  rw [e] at h
  exact (List.nodup_append.1 h).2.2 _ z _ List.mem_cons_self rfl
theorem g_lenD {K : PySem.W.Frag} {H : Hp} {Q : VK} {p : Addr} {kvs : List (L2.Key × V)} (hp : H p = some (.dK kvs)) (h : Q (.int (kvs.length : Nat)) H) : uLen K [.ref p] H Q := ⟨kvs.length, .inr ⟨kvs, hp, rfl⟩, h⟩
/-! ### maps with draws -/
theorem Box.tk {H H' : Hp} {p : Addr} (b : Box H p) (e : But p H H') : Tk H H' := by
  obtain ⟨_, _, _, h⟩ := b
  exact e.tkl h
theorem Box.ne {H : Hp} {p q : Addr} (b : Box H p) (h : H q = none) : q ≠ p := fun z => by
  obtain ⟨_, _, _, hp⟩ := b
  rw [← z, h] at hp
  cases hp
theorem Box.at_upd {H : Hp} {p q : Addr} {o : HO} (b : Box H p) (h : q ≠ p) : Box (upd H q o) p := by
  obtain ⟨x, y, z, hp⟩ := b
  exact ⟨x, y, z, by rw [upd_ne (Ne.symm h)]; exact hp⟩
theorem But.at_new {p q : Addr} {H H' : Hp} {o : HO} (e : But p H H') (h : H q = none) : But p H (L2.upd H' q o) := fun a u na hu => by
  rw [upd_ne (ne_of_none hu h)]
  exact e a u na hu
section
variable {J : It} {n : Nat} {G : Hp → Prop} {Y : Nat → Hp → V → Hp → Prop} {g : TG} {te : TE} {vs : List Nat} {σ : L2.St} {H1 : Hp} {D : Addr} {Qd : Hp → Prop}
theorem lc_mapB (w : Walk J n G Y) (p : Addr) (R : Nat → Hp → V → Prop) (hn : n ≤ 1000000) (hD : H1 D = none) (hB : Box H1 p) (hR : ∀ j H H' v, Tk H H' → R j H v → R j H' v) (hG : ∀ H, But p H1 H → G H)
    (hs : ∀ i x H H' (P : VK) (N : Hp → Prop), i < n → But p H1 H → Box H p → Y i H x H' → (∀ y H4, But p H H4 → Box H4 p → R i H4 y → P y H4) → g x (wipe σ vs) H' fun σ2 H2 => wipe σ2 vs = wipe σ vs ∧ tYes σ2 H2 fun b H3 => if b = true then te σ2 H3 P else N H3)
    (hd : ∀ H' acc, But p H1 H' → Box H' p → H' D = some (.lst acc) → acc.length = n → (∀ j v, acc[j]? = some v → R j H' v) → Qd H') :
    ∃ W : Nat → Nat → Hp → Prop, (∃ m, W 0 m (upd H1 D (.lst []))) ∧ ∀ i m H, W i m H →
      (J.stop i H ∧ Qd H) ∨ (J.go i H ∧ ∃ Nx : Hp → Prop, (∀ H', Nx H' → ∃ m', m' < m ∧ W (i + 1) m' H') ∧ ∀ x H', J.yld i H x H' → g x (wipe σ vs) H' fun σ2 H2 => wipe σ2 vs = wipe σ vs ∧ tYes σ2 H2 fun b H3 =>
        if b = true then te σ2 H3 fun y H4 => ∃ acc, H4 D = some (.lst acc) ∧ acc.length < sizeLine ∧ Nx (upd H4 D (.lst (acc ++ [y]))) else Nx H3) := by
  have nD := hB.ne hD
  refine lc_it w (fun i H => But p H1 H ∧ Box H p ∧ ∃ acc, H D = some (.lst acc) ∧ acc.length = i ∧ ∀ j v, acc[j]? = some v → R j H v) ⟨(Ex.new hD).but p, hB.at_upd nD, [], upd_same, rfl, fun j v z => by simp at z⟩ (fun i H _ h => hG H h.1) ?_ fun H h => ?_
  · rintro i x H H' hi ⟨e, b, acc, ha, hl, hr⟩ y
    refine hs i x H H' _ _ hi e b y fun u H4 e4 b4 r4 => ?_
    have a4 := e4 _ _ nD ha
    have t4 := b.tk e4
    refine ⟨acc, a4, Nat.lt_of_le_of_lt (by omega : acc.length ≤ 1000000) (by decide), (e.trans e4).at_new hD, b4.at_upd nD, _, upd_same, by rw [List.length_append, hl]; rfl, fun j v hj => ?_⟩
    have b5 : Tk H4 (upd H4 D (.lst (acc ++ [u]))) := ((But.refl D H4).upd).tkl a4
    by_cases c : j < acc.length
    · rw [List.getElem?_append_left c] at hj
      exact hR _ _ _ _ b5 (hR _ _ _ _ t4 (hr j v hj))
    · rw [List.getElem?_append_right (by omega)] at hj
      have ej : j = i := by
        have := (List.getElem?_eq_some_iff.1 hj).1
        simp at this
        omega
      subst ej
      rw [hl, Nat.sub_self] at hj
      cases hj
      exact hR _ _ _ _ b5 r4
  · obtain ⟨e, b, acc, ha, hl, hr⟩ := h
    exact hd H acc e b ha hl hr
end
/-- a list of values told one by one -/
theorem acc_strs {n : Nat} {acc : List V} {P : Nat → Str → Prop} (hl : acc.length = n) (h : ∀ j v, acc[j]? = some v → ∃ s, v = .str s ∧ P j s) : ∃ ss : List Str, acc = ss.map V.str ∧ ss.length = n ∧ ∀ j s, ss[j]? = some s → P j s := by
  refine ⟨acc.map fun v => match v with | .str s => s | _ => ⟨#[]⟩, ?_, by rw [List.length_map, hl], fun j s hs => ?_⟩
  · refine List.ext_getElem? fun j => ?_
    rw [List.map_map, List.getElem?_map]
    cases e : acc[j]? with
    | none => rfl
    | some v =>
      obtain ⟨s, rfl, _⟩ := h j v e
      rfl
  · rw [List.getElem?_map] at hs
    cases e : acc[j]? with
    | none => rw [e] at hs; cases hs
    | some v =>
      obtain ⟨s', rfl, hp⟩ := h j v e
      rw [e] at hs
      cases hs
      exact hp
/-! ### the comparison where no list stands -/
inductive PrH (H0 H1 : Hp) : Nat → List V → Prop where
  | nil : PrH H0 H1 0 []
  | snoc {n : Nat} {ts : List V} {d : D} {t : V} (h : PrH H0 H1 n ts) (r : Pr H0 H1 d t) (k : d.hard = true) : PrH H0 H1 (n + d.size) (ts ++ [t])
theorem PrH.len {H0 H1 : Hp} {n : Nat} {ts : List V} (h : PrH H0 H1 n ts) : ts.length ≤ n := by
  induction h with
  | nil => exact Nat.le_refl _
  | @snoc n ts d t h r k ih =>
    have := d.size_pos
    rw [List.length_append, List.length_singleton]
    omega
theorem PrH.tk {H0 H1 H2 : Hp} {n : Nat} {ts : List V} (e : Tk H1 H2) (h : PrH H0 H1 n ts) : PrH H0 H2 n ts := by
  induction h with
  | nil => exact .nil
  | snoc h r k ih =>
    obtain ⟨a, v, w, rfl, ha, rv, rw'⟩ := r
    exact .snoc ih ⟨a, v, w, rfl, e _ _ ha, rv, rw'⟩ k
theorem PrH.ext {H0 H1 : Hp} : ∀ {ds : List D} {xs ys : List V} {tl : List Addr} {n : Nat} {ts : List V}, Reps H0 ds xs → Reps H0 ds ys → D.hards ds = true → Prz H1 tl xs ys → PrH H0 H1 n ts → PrH H0 H1 (n + D.sizes ds) (ts ++ tl.map V.ref)
  | [], xs, ys, tl, n, ts, hx, hy, _, hp, h => by
    simp only [Reps] at hx hy
    subst hx
    have e : tl = [] := List.eq_nil_of_length_eq_zero hp.1
    subst e
    simpa [D.sizes] using h
  | d :: ds, xs, ys, tl, n, ts, hx, hy, hh, hp, h => by
    simp only [Reps] at hx hy
    simp only [D.hards, Bool.and_eq_true] at hh
    obtain ⟨x, xr, rfl, rx, hx⟩ := hx
    obtain ⟨y, yr, rfl, ry, hy⟩ := hy
    cases tl with
    | nil => cases hp.1
    | cons t tl =>
      obtain ⟨x', y', ex, ey, ht⟩ := hp.2 0 t rfl
      cases ex
      cases ey
      have hp' : Prz H1 tl xr yr := ⟨Nat.succ.inj hp.1, fun j u hu => by
        obtain ⟨a, b, q⟩ := hp.2 (j + 1) u hu
        exact ⟨a, b, q⟩⟩
      have z := PrH.ext hx hy hh.2 hp' (h.snoc ⟨t, x, y, rfl, ht, rx, ry⟩ hh.1)
      have e1 : n + D.sizes (d :: ds) = n + d.size + D.sizes ds := by simp only [D.sizes]; omega
      have e2 : ts ++ (t :: tl).map V.ref = ts ++ [V.ref t] ++ tl.map V.ref := by simp
      rw [e1, e2]
      exact z
theorem D.openT {H0 : Hp} {d : D} {v w : V} (k : d.isT = true) (kh : d.hard = true) (r : Rep H0 d v) (r' : Rep H0 d w) : ∃ (a b : Addr) (ds : List D) (xs ys : List V), v = .ref a ∧ w = .ref b ∧ Reps H0 ds xs ∧ Reps H0 ds ys ∧ d.size = 1 + D.sizes ds ∧ D.hards ds = true ∧ H0 a = some (.tup xs) ∧ H0 b = some (.tup ys) := by
  cases d with
  | tup ds =>
    simp only [Rep] at r r'
    obtain ⟨a, xs, rfl, ha, ra⟩ := r
    obtain ⟨b, ys, rfl, hb, rb⟩ := r'
    exact ⟨a, b, ds, xs, ys, rfl, rfl, ra, rb, by simp only [D.size], by simpa only [D.hard] using kh, ha, hb⟩
  | _ => cases k
theorem hard_flat {d : D} (kh : d.hard = true) (k : d.isT = false) : (d.isT || d.isL) = false := by
  cases d with
  | tup ds => cases k
  | lst ds => simp only [D.hard] at kh; cases kh
  | _ => rfl
def spAlikeT : Sp := fun vs H Q _ => ∃ (d : D) (v w : V), vs = [v, w] ∧ Rep H d v ∧ Rep H d w ∧ d.hard = true ∧ d.size ≤ 400000 ∧ ∀ H', Ex H H' → Q (.bl true) H'
end Bk

set_option Elab.async false
set_option linter.all false
set_option maxRecDepth 100000
set_option maxHeartbeats 4000000
/-! Bk12: texts joined, cut; lists of texts compared. -/
namespace Bk
open PySem PySem.Spec PyProof.Rows L2
theorem fold_join : ∀ (rest : List Str) (acc : Array Nat), (rest.foldl (fun acc p => acc ++ (Str.ofString "").cps ++ p.cps) acc).toList = acc.toList ++ (rest.map fun s => s.cps.toList).flatten
  | [], acc => by simp
  | r :: rest, acc => by
    rw [List.foldl_cons, fold_join rest, List.map_cons, List.flatten_cons]
    have e : (Str.ofString "").cps.toList = [] := by decide
    rw [Array.toList_append, Array.toList_append, e, List.append_nil, List.append_assoc]
theorem joinE (ys : List Str) : (Txt.join "" ys).cps.toList = (ys.map fun s => s.cps.toList).flatten := by
  cases ys with
  | nil => rfl
  | cons y ys =>
    show ((ys.foldl (fun acc p => acc ++ (Str.ofString "").cps ++ p.cps) y.cps).toList) = _
    rw [fold_join, List.map_cons, List.flatten_cons]
def one (c : Nat) : Str := ⟨#[c]⟩
theorem joinOnes (cs : List Nat) : (Txt.join "" (cs.map one)).cps.toList = cs := by
  rw [joinE, List.map_map]
  induction cs with
  | nil => rfl
  | cons c cs ih =>
    rw [List.map_cons, List.flatten_cons, ih]
    rfl
theorem onesLen (cs : List Nat) : ((cs.map one).map (·.length)).sum = cs.length := by
  induction cs with
  | nil => rfl
  | cons c cs ih =>
    rw [List.map_cons, List.map_cons, List.sum_cons, ih]
    show 1 + cs.length = cs.length + 1
    omega
theorem str_len (s : Str) : s.length = s.cps.toList.length := by
  show s.cps.size = _
  simp
/-- a list of single signs -/
theorem acc_ones {n : Nat} {acc : List V} {P : Nat → Prop} (hl : acc.length = n) (h : ∀ (j : Nat) (v : V), acc[j]? = some v → ∃ c, v = V.str ⟨#[c]⟩ ∧ P c) : ∃ cs : List Nat, acc = (cs.map one).map V.str ∧ cs.length = n ∧ ∀ c ∈ cs, P c := by
  induction acc generalizing n with
  | nil => exact ⟨[], rfl, hl, fun c z => nomatch z⟩
  | cons v acc ih =>
    obtain ⟨c, ev, hc⟩ := h 0 v rfl
    subst ev
    obtain ⟨cs, rfl, h2, h3⟩ := ih (n := acc.length) rfl fun j v hj => h (j + 1) v hj
    refine ⟨c :: cs, rfl, ?_, fun x hx => ?_⟩
    · rw [List.length_cons] at hl ⊢
      omega
    · rcases List.mem_cons.1 hx with rfl | hx
      · exact hc
      · exact h3 x hx
section
variable {K : PySem.W.Frag} {H : Hp} {Q : VK} {σ : L2.St}
theorem g_m1 {r : V → List V → Hp → VK → Prop} {to te : TE} (h : to σ H fun x H1 => (∃ a, x = .str a) ∧ te σ H1 fun y H2 => r x [y] H2 Q) : tM1 r to te σ H Q := h
theorem g_tyS {P : Prop} {a : Str} (h : P) : (∃ b, V.str a = .str b) ∧ P := ⟨⟨a, rfl⟩, h⟩
theorem joinB {cs : List Nat} (hl : cs.length ≤ 1000000) : ((cs.map one).map (·.length)).sum + (cs.map one).length * (Str.ofString "").length ≤ 16777216 := by
  rw [onesLen, show (Str.ofString "").length = 0 from rfl, Nat.mul_zero]
  omega
theorem g_inSn {c z : Str} (e : c.cps.size = 1) (h : Q (.bl (!decide (c.cps.toList.headD 0 ∈ z.cps.toList))) H) : uIn K true (.str c) (.str z) H Q := ⟨e, h⟩
/-! lists of texts compared -/
theorem strsDp : ∀ ss : List Str, DpAll K H (ss.map V.str) (ss.map PyData.str)
  | [] => .nil
  | s :: ss => .cons (.str s) (strsDp ss)
theorem eqv_strs : ∀ ss ts : List Str, PyData.eqvAll (ss.map PyData.str) (ts.map PyData.str) = decide (ss = ts)
  | [], [] => rfl
  | [], t :: ts => rfl
  | s :: ss, [] => rfl
  | s :: ss, t :: ts => by
    show (PyData.eqv (.str s) (.str t) && PyData.eqvAll (ss.map PyData.str) (ts.map PyData.str)) = _
    rw [eqv_strs ss ts]
    show ((s == t) && decide (ss = ts)) = decide (s :: ss = t :: ts)
    by_cases c : s = t
    · subst c
      simp
    · have e : (s == t) = false := by simpa using c
      rw [e, Bool.false_and]
      symm
      rw [decide_eq_false_iff_not]
      intro z
      exact c (List.cons.inj z).1
theorem strs_shaped {ss : List Str} (h : ∀ s ∈ ss, ∀ c ∈ s.cps.toList, c < 0x110000) : SeqAt.shaped (.list (ss.map PyData.str)) = true := by
  have a : PyData.canLayAll0 (ss.map PyData.str) = true := by
    induction ss with
    | nil => rfl
    | cons s ss ih =>
      show (PyData.canLay0 (.str s) && PyData.canLayAll0 (ss.map PyData.str)) = true
      rw [ih fun t ht => h t (List.mem_cons_of_mem _ ht), Bool.and_true]
      show s.cps.all (· < 0x110000) = true
      rw [Array.all_eq_true']
      intro x hx
      exact decide_eq_true (h s List.mem_cons_self x (Array.mem_toList_iff.2 hx))
  have b : PyData.depthAll (ss.map PyData.str) = 0 := by
    clear h a
    induction ss with
    | nil => rfl
    | cons s ss ih =>
      show max (PyData.depth (.str s)) (PyData.depthAll (ss.map PyData.str)) = 0
      rw [ih]
      rfl
  show (PyData.canLayAll0 (ss.map PyData.str) && decide (PyData.depthAll (ss.map PyData.str) + 1 ≤ 64)) = true
  rw [a, b]
  rfl
theorem g_eqSs {a b : Addr} {ss ts : List Str} (ha : H a = some (.lst (ss.map V.str))) (hb : H b = some (.lst (ts.map V.str))) (hs : ∀ s ∈ ss, ∀ c ∈ s.cps.toList, c < 0x110000) (ht : ∀ s ∈ ts, ∀ c ∈ s.cps.toList, c < 0x110000) (h : Q (.bl (decide (ss = ts))) H) : rEqD K (.ref a) (.ref b) H Q :=
  ⟨_, _, .lst (sqL ha) (strsDp ss), .lst (sqL hb) (strsDp ts), strs_shaped hs, strs_shaped ht, by
    show Q (.bl (PyData.eqvAll (ss.map PyData.str) (ts.map PyData.str))) H
    rw [eqv_strs]
    exact h⟩
theorem g_neSs {a b : Addr} {ss ts : List Str} (ha : H a = some (.lst (ss.map V.str))) (hb : H b = some (.lst (ts.map V.str))) (hs : ∀ s ∈ ss, ∀ c ∈ s.cps.toList, c < 0x110000) (ht : ∀ s ∈ ts, ∀ c ∈ s.cps.toList, c < 0x110000) (h : Q (.bl (!decide (ss = ts))) H) : rNeD K (.ref a) (.ref b) H Q :=
  ⟨_, _, .lst (sqL ha) (strsDp ss), .lst (sqL hb) (strsDp ts), strs_shaped hs, strs_shaped ht, by
    show Q (.bl (!PyData.eqvAll (ss.map PyData.str) (ts.map PyData.str))) H
    rw [eqv_strs]
    exact h⟩
end
/-- any text of the laws -/
def TextOk (s : Str) : Prop := s.length ≤ 1000 ∧ ∀ c ∈ s.cps.toList, c < 0x110000
def spIsNameL : Sp := fun vs H Q _ => ∃ s : Str, vs = [.str s] ∧ TextOk s ∧ ∀ H', Ex H H' → Q (.bl (isName s)) H'
def spAnyText : Sp := fun vs H Q _ => ∃ p : Addr, vs = [.ref p] ∧ Box H p ∧ ∀ (s : Str) (H' : Hp), TextOk s → But p H H' → Box H' p → Q (.str s) H'
instance instTextOk (s : Str) : Decidable (TextOk s) := inferInstanceAs (Decidable (s.length ≤ 1000 ∧ ∀ c ∈ s.cps.toList, c < 0x110000))
def anyTexts : List Str := ["kind", "kinds", "kin", "Kind", "kindly", "", "a", "abcdef", "abcdefg", "a1", "a b", "aB", "_a", "a ", " a"]
def anySigns : Str := "abcdefghijklmnopqrstuvwxyzABCXYZ0189 !\"#$&'()*+,-./:;<=>?\x40[\\]^_`{|}~\n"
theorem anyTexts_ok : ∀ s ∈ anyTexts, TextOk s := by decide +kernel
theorem anySigns_ok : ∀ c ∈ anySigns.cps.toList, c < 0x110000 := by decide +kernel
theorem anySigns_len : anySigns.length = 69 := by decide +kernel
theorem atI_ex {α : Type} {l : List α} {j : Int} (h0 : 0 ≤ j) (h1 : j < l.length) : ∃ x, atI l j = some x ∧ l[j.toNat]? = some x := by
  have hj : j.toNat < l.length := by omega
  refine ⟨l[j.toNat], ?_, List.getElem?_eq_getElem hj⟩
  have z := atI_nat (List.getElem?_eq_getElem hj)
  rwa [Int.toNat_of_nonneg h0] at z
theorem atI_strs {ss : List Str} {j : Int} (h0 : 0 ≤ j) (h1 : j < ss.length) : ∃ s, atI (ss.map V.str) j = some (.str s) ∧ s ∈ ss := by
  obtain ⟨v, e, h⟩ := atI_ex (l := ss.map V.str) h0 (by rw [List.length_map]; exact h1)
  rw [List.getElem?_map] at h
  cases q : ss[j.toNat]? with
  | none => rw [q] at h; cases h
  | some s =>
    rw [q] at h
    cases h
    exact ⟨s, e, List.mem_of_getElem? q⟩
end Bk

set_option Elab.async false
set_option linter.all false
set_option maxRecDepth 100000
set_option maxHeartbeats 4000000
/-! Bk13: names drawn. -/
namespace Bk
open PySem PySem.Spec PyProof.Rows L2
section
variable {X : Cx}
def uIdx : V → List V → Hp → VK → Prop := fun x xs H Q => match x, xs with
  | .str z, [.str c] => ∃ k, Txt.index0 z c = some k ∧ Q (.int (k : Nat)) H
  | _, _ => False
theorem mt_idx (hc : X.calm = true) : MtS X "str.index" (fun _ x xs H Q => uIdx x xs H Q) := by
  intro pins s σ H x xs v us Q I rx rv h
  unfold uIdx at h
  split at h
  · rename_i z c
    obtain ⟨k, e, q⟩ := h
    exact mt_indexX hc (takes0 (X := X)) pins s σ H _ _ v us Q I rx rv ⟨z, c, rfl, rfl, fun k' e' => by rw [e] at e'; cases e'; exact q, fun e' => by rw [e] at e'; cases e'⟩
  · exact h.elim
end
theorem letters_list : lettersS.cps.toList = (List.range 26).map (97 + ·) := by decide +kernel
theorem letters_len : lettersS.length = 26 := by decide +kernel
theorem letters_index : ∀ i : Fin 26, Txt.index0 lettersS ⟨#[97 + i.val]⟩ = some i.val := by decide +kernel
theorem letters_at {i : Nat} (h : i < 26) : lettersS.cps.toList[i]? = some (97 + i) := by
  rw [letters_list, List.getElem?_map, List.getElem?_range h]
  rfl
theorem letters_mem {c : Nat} : c ∈ lettersS.cps.toList ↔ ∃ i, i < 26 ∧ c = 97 + i := by
  rw [letters_list, List.mem_map]
  constructor
  · rintro ⟨i, hi, rfl⟩
    exact ⟨i, List.mem_range.1 hi, rfl⟩
  · rintro ⟨i, hi, rfl⟩
    exact ⟨i, List.mem_range.2 hi, rfl⟩
/-- small letters alone -/
def Low (s : Str) : Prop := ∀ c ∈ s.cps.toList, c ∈ lettersS.cps.toList
theorem isName_of {s : Str} (hl : Low s) (h1 : 1 ≤ s.length) (h6 : s.length ≤ 6) (hk : s ≠ "kind") : isName s = true := by
  unfold isName
  rw [decide_eq_false hk, decide_eq_true ⟨h1, h6⟩]
  simp only [Bool.not_false, Bool.true_and, List.all_eq_true, decide_eq_true_eq]
  exact hl
theorem isName_low {s : Str} (h : isName s = true) : Low s := by
  unfold isName at h
  simp only [Bool.and_eq_true, List.all_eq_true, decide_eq_true_eq] at h
  exact h.2
theorem low_ok {s : Str} (h : Low s) : ∀ c ∈ s.cps.toList, c < 0x110000 := fun c hc => by
  obtain ⟨i, hi, rfl⟩ := letters_mem.1 (h c hc)
  omega
theorem app_list (s t : Str) : (s ++ t).cps.toList = s.cps.toList ++ t.cps.toList := by
  show (s.cps ++ t.cps).toList = _
  simp
theorem app_len (s t : Str) : (s ++ t).length = s.length + t.length := by
  rw [str_len, str_len, str_len, app_list, List.length_append]
theorem Low.app {s t : Str} (h : Low s) (g : Low t) : Low (s ++ t) := fun c hc => by
  rw [app_list] at hc
  rcases List.mem_append.1 hc with hc | hc
  · exact h c hc
  · exact g c hc
theorem cut_list (z : Str) (lo hi : Option Int) : (cutS z lo hi).cps.toList = (z.cps.toList.drop (HT.sIx z.length 0 lo)).take (HT.sIx z.length z.length hi - HT.sIx z.length 0 lo) := by
  unfold cutS
  rfl
theorem Low.cut {z : Str} {lo hi : Option Int} (h : Low z) : Low (cutS z lo hi) := fun c hc => by
  rw [cut_list] at hc
  exact h c (List.mem_of_mem_drop (List.mem_of_mem_take hc))
theorem cut_to {z : Str} {a : Nat} (h : a ≤ z.length) : (cutS z none (some (a : Int))).cps.toList = z.cps.toList.take a := by
  rw [cut_list, HT.sIx_none, HT.sIx_nat, Nat.min_eq_left h, List.drop_zero, Nat.sub_zero]
theorem cut_from {z : Str} {a : Nat} (h : a ≤ z.length) : (cutS z (some (a : Int)) none).cps.toList = z.cps.toList.drop a := by
  rw [cut_list, HT.sIx_none, HT.sIx_nat, Nat.min_eq_left h, str_len, ← List.length_drop, List.take_length]
theorem cut_to_len (z : Str) (a : Nat) : (cutS z none (some (a : Int))).length = min a z.length := by
  rw [str_len, cut_list, HT.sIx_none, HT.sIx_nat, List.drop_zero, Nat.sub_zero, List.length_take, ← str_len]
  omega
theorem str_ext {s t : Str} (h : s.cps.toList = t.cps.toList) : s = t := by
  obtain ⟨a⟩ := s
  obtain ⟨b⟩ := t
  congr 1
  exact Array.toList_inj.1 h
/-- the same behind another first letter -/
def rot (r : List Nat) (k : Nat) : Str := ⟨((97 + k % 26) :: r).toArray⟩
theorem rot_list (r : List Nat) (k : Nat) : (rot r k).cps.toList = (97 + k % 26) :: r := rfl
theorem rot_of {s : Str} (hl : Low s) (h1 : 1 ≤ s.length) : ∃ a r, s = rot r a := by
  cases e : s.cps.toList with
  | nil => rw [str_len, e] at h1; cases h1
  | cons c r =>
    obtain ⟨i, hi, rfl⟩ := letters_mem.1 (hl c (by rw [e]; exact List.mem_cons_self))
    exact ⟨i, r, str_ext (by rw [e, rot_list, Nat.mod_eq_of_lt hi])⟩
theorem nodup_sub : ∀ {l m : List Str}, l.Nodup → (∀ x ∈ l, x ∈ m) → l.length ≤ m.length
  | [], m, _, _ => Nat.zero_le _
  | x :: l, m, h, s => by
    have hx := s x List.mem_cons_self
    obtain ⟨h1, h2⟩ := List.nodup_cons.1 h
    have ih := nodup_sub (l := l) (m := m.erase x) h2 fun y hy => (List.mem_erase_of_ne fun (z : y = x) => h1 (z ▸ hy)).2 (s y (List.mem_cons_of_mem _ hy))
    rw [List.length_erase_of_mem hx] at ih
    have := List.length_pos_of_mem hx
    rw [List.length_cons]
    omega
theorem rot_bound {r : List Nat} {a t : Nat} {F : List Str} (ht : t ≤ 25) (h : ∀ u, u ≤ t → rot r (a + u) ∈ F) : t + 1 ≤ F.length := by
  have z := nodup_sub (l := (List.range (t + 1)).map fun u => rot r (a + u)) (m := F) ?_ fun x hx => ?_
  · rwa [List.length_map, List.length_range] at z
  · refine List.Pairwise.map _ (R := fun u v => u < v ∧ v ≤ t) (fun u v huv e => ?_) ?_
    · have := congrArg (fun s : Str => s.cps.toList) e
      simp only [rot_list, List.cons.injEq, and_true] at this
      omega
    · refine List.Pairwise.imp_of_mem (R := (· < ·)) (fun hu hv q => ⟨q, ?_⟩) List.pairwise_lt_range
      have := List.mem_range.1 hv
      omega
  · obtain ⟨u, hu, rfl⟩ := List.mem_map.1 hx
    exact h u (by have := List.mem_range.1 hu; omega)
section
variable {K : PySem.W.Frag} {H : Hp} {Q : VK} {σ : L2.St}
theorem inV_strs (n : Str) : ∀ ss : List Str, inV (.str n) (ss.map V.str) = decide (n ∈ ss)
  | [] => rfl
  | s :: ss => by
    show (eqV (.str s) (.str n) || inV (.str n) (ss.map V.str)) = _
    rw [inV_strs n ss]
    show ((s == n) || decide (n ∈ ss)) = decide (n ∈ s :: ss)
    by_cases c : s = n
    · subst c
      simp
    · have e : (s == n) = false := by simpa using c
      rw [e, Bool.false_or]
      congr 1
      rw [List.mem_cons]
      exact propext ⟨fun z => .inr z, fun z => z.resolve_left fun q => c q.symm⟩
theorem flat_strs : ∀ ss : List Str, (ss.map V.str).all flatV = true
  | [] => rfl
  | s :: ss => by
    rw [List.map_cons, List.all_cons, flat_strs ss]
    rfl
theorem g_inL {l : Addr} {n : Str} {ss : List Str} (hl : H l = some (.lst (ss.map V.str))) (h : Q (.bl (decide (n ∈ ss))) H) : uIn K false (.str n) (.ref l) H Q := ⟨_, .inl (sqL hl), rfl, flat_strs ss, by rw [inV_strs]; exact h⟩
theorem g_addS {a b : Str} (hl : a.length + b.length ≤ 1000000) (h : Q (.str (a ++ b)) H) : uAdd K (.str a) (.str b) H Q := ⟨Nat.le_trans hl (by decide), h⟩
theorem g_bmS {T : String} {r : L2.St → V → List V → Hp → VK → Prop} {to : TE} {t : TA} (h : to σ H fun x H1 => tyV K T x H1 ∧ t σ H1 fun xs H2 => r σ x xs H2 Q) : tBMS K T r to t σ H Q := h
theorem g_tyStr {z : Str} {P : Prop} (h : P) : tyV K "str" (.str z) H ∧ P := ⟨rfl, h⟩
theorem g_idx {z c : Str} {k : Nat} (e : Txt.index0 z c = some k) (h : Q (.int (k : Nat)) H) : uIdx (.str z) [.str c] H Q := ⟨k, e, h⟩
end
def spNames : Sp := fun vs H Q _ => ∃ (p : Addr) (many : Nat), vs = [.ref p, .int (many : Nat)] ∧ Box H p ∧ many ≤ 12 ∧ ∀ (l : Addr) (ss : List Str) (H' : Hp), ss.length = many → (∀ s ∈ ss, isName s = true) → ss.Nodup → H l = none → But p H H' → Box H' p → H' l = some (.lst (ss.map V.str)) → Q (.ref l) H'
end Bk

set_option Elab.async false
set_option linter.all false
set_option maxRecDepth 100000
set_option maxHeartbeats 4000000
/-! Bk14: the laws' makers. -/
namespace Bk
open PySem PySem.Spec PyProof.Rows L2
/-- (maker, its kind's number, its parts' numbers), as the laws find them -/
def dueD (w : Wd) (e : Nat × Mk) : D := .tup [.str e.2.1, .int (e.1 : Nat), .tup (e.2.2.map fun s => D.int (kno w s))]
def DueAt (w : Wd) (H : Hp) (e : Nat × Mk) (v : V) : Prop := ∃ p t, v = .ref p ∧ H p = some (.tup [.str e.2.1, .int (e.1 : Nat), .ref t]) ∧ H t = some (.tup (e.2.2.map fun s => .int (kno w s)))
theorem DueAt.tk {w : Wd} {H H' : Hp} {e : Nat × Mk} {v : V} (t : Tk H H') (h : DueAt w H e v) : DueAt w H' e v := by
  obtain ⟨p, q, a, b, c⟩ := h
  exact ⟨p, q, a, t _ _ b, t _ _ c⟩
/-- a list of such -/
def Dues (w : Wd) (H : Hp) (L : List (Nat × Mk)) (vs : List V) : Prop := vs.length = L.length ∧ ∀ (j : Nat) (v : V), vs[j]? = some v → ∃ e, L[j]? = some e ∧ DueAt w H e v
theorem Dues.tk {w : Wd} {H H' : Hp} {L : List (Nat × Mk)} {vs : List V} (t : Tk H H') (h : Dues w H L vs) : Dues w H' L vs := ⟨h.1, fun j v hj => by
  obtain ⟨e, a, b⟩ := h.2 j v hj
  exact ⟨e, a, b.tk t⟩⟩
theorem Dues.app {w : Wd} {H : Hp} {L M : List (Nat × Mk)} {vs us : List V} (h : Dues w H L vs) (g : Dues w H M us) : Dues w H (L ++ M) (vs ++ us) := by
  refine ⟨by rw [List.length_append, List.length_append, h.1, g.1], fun j v hj => ?_⟩
  by_cases c : j < vs.length
  · rw [List.getElem?_append_left c] at hj
    obtain ⟨e, a, b⟩ := h.2 j v hj
    exact ⟨e, by rw [List.getElem?_append_left (by rw [← h.1]; exact c)]; exact a, b⟩
  · rw [List.getElem?_append_right (by omega)] at hj
    obtain ⟨e, a, b⟩ := g.2 _ v hj
    exact ⟨e, by rw [List.getElem?_append_right (by rw [← h.1]; omega), ← h.1]; exact a, b⟩
def spMakers : Sp := fun vs H Q _ => ∃ (w : Wd) (v : V), vs = [v] ∧ Rep H (woodD w) v ∧ WoodOk w ∧ ∀ l H' us, Ex H H' → H' l = some (.lst us) → Dues w H' (tabFrom 0 w) us → Q (.ref l) H'
/-- the first place of a kind's name -/
theorem kno_at : ∀ (w : Wd) (n i : Nat) (k : Str × List Mk) (kvs : List (L2.Key × V)), (w.map Prod.fst).Nodup → w[i]? = some k → valV (mergeK kvs (kvsFrom n w)) (.inr k.1) = some (.int ((n + i : Nat) : Int))
  | [], n, i, k, kvs, _, h => by simp at h
  | a :: w, n, 0, k, kvs, hn, h => by
    cases h
    show valV (mergeK (putK kvs (.inr a.1) (.int (n : Nat))) (kvsFrom (n + 1) w)) (.inr a.1) = _
    have h1 := (List.nodup_cons.1 hn).1
    have z : ∀ (w : Wd) (n : Nat) (kvs : List (L2.Key × V)) (s : Str), s ∉ w.map Prod.fst → valV (mergeK kvs (kvsFrom n w)) (.inr s) = valV kvs (.inr s) := by
      intro w
      induction w with
      | nil => intro n kvs s _; rfl
      | cons b w ih =>
        intro n kvs s hs
        show valV (mergeK (putK kvs (.inr b.1) (.int (n : Nat))) (kvsFrom (n + 1) w)) (.inr s) = _
        rw [List.map_cons, List.mem_cons, not_or] at hs
        rw [ih (n + 1) _ s hs.2, valV_put, if_neg fun e => hs.1 (Sum.inr.inj e)]
    rw [z w (n + 1) _ a.1 h1, valV_put, if_pos rfl]
    rfl
  | a :: w, n, i + 1, k, kvs, hn, h => by
    show valV (mergeK (putK kvs (.inr a.1) (.int (n : Nat))) (kvsFrom (n + 1) w)) (.inr k.1) = _
    rw [kno_at w (n + 1) i k _ (List.nodup_cons.1 hn).2 h]
    congr 2
    omega
theorem kno_idx {w : Wd} {i : Nat} {k : Str × List Mk} (hn : (w.map Prod.fst).Nodup) (h : w[i]? = some k) : kno w k.1 = (i : Nat) := by
  unfold kno
  rw [kno_at w 0 i k [] hn h]
  simp
/-- list.index of a kind's name -/
theorem g_lidx {K : PySem.W.Frag} {H : Hp} {Q : VK} {w : Wd} {l : Addr} {s : Str} (hn : (w.map Prod.fst).Nodup) (hl : H l = some (.lst ((w.map Prod.fst).map V.str))) (hs : s ∈ w.map Prod.fst) (h : Q (.int (kno w s)) H) : rIndex K (.ref l) [.str s] H Q := by
  obtain ⟨i, hi⟩ := List.mem_iff_getElem?.1 hs
  rw [List.getElem?_map] at hi
  cases ek : w[i]? with
  | none => rw [ek] at hi; cases hi
  | some k =>
    rw [ek] at hi
    cases hi
    rw [kno_idx hn ek] at h
    have ei : (w.map Prod.fst)[i]? = some k.1 := by rw [List.getElem?_map, ek]; rfl
    refine ⟨l, _, _, i, .str k.1, rfl, rfl, sqL hl, rfl, flat_strs _, by rw [List.getElem?_map, ei]; rfl, by show (k.1 == k.1) = true; simp, fun m z hm hz => ?_, h⟩
    rw [List.getElem?_map] at hz
    cases em : (w.map Prod.fst)[m]? with
    | none => rw [em] at hz; cases hz
    | some t =>
      rw [em] at hz
      cases hz
      show (t == k.1) = false
      have ne : t ≠ k.1 := by
        intro e
        subst e
        have := nodup_at hn ei
        exact this (List.mem_iff_getElem?.2 ⟨m, by rw [List.getElem?_take, if_pos hm, em]⟩)
      simpa using ne
theorem tab_names : ∀ (w : Wd) (n : Nat), (tabFrom n w).map (fun e => e.2.1) = mkNames w
  | [], n => rfl
  | k :: w, n => by
    show List.map _ (k.2.map (fun m => (n, m)) ++ tabFrom (n + 1) w) = (List.map _ (k :: w)).flatten
    rw [List.map_append, tab_names w (n + 1), List.map_map, List.map_cons, List.flatten_cons]
    rfl
theorem intsReps {H : Hp} : ∀ is : List Int, Reps H (is.map D.int) (is.map V.int)
  | [] => by simp only [List.map, Reps]
  | i :: is => by
    simp only [List.map, Reps]
    exact ⟨_, _, rfl, Rep.i i, intsReps is⟩
theorem ints_hard : ∀ is : List Int, D.hards (is.map D.int) = true
  | [] => rfl
  | i :: is => by
    show (D.hard (.int i) && D.hards (is.map D.int)) = true
    rw [ints_hard is]
    rfl
theorem ints_size : ∀ is : List Int, D.sizes (is.map D.int) = is.length
  | [] => rfl
  | i :: is => by
    show D.size (.int i) + D.sizes (is.map D.int) = _
    rw [ints_size is, List.length_cons]
    simp only [D.size]
    omega
theorem Rep.ints {H : Hp} {t : Addr} {is : List Int} (h : H t = some (.tup (is.map V.int))) : Rep H (.tup (is.map D.int)) (.ref t) := by
  simp only [Rep]
  exact ⟨t, _, rfl, h, intsReps is⟩
theorem map_kno (w : Wd) (l : List Str) : (l.map fun s => V.int (kno w s)) = (l.map fun s => kno w s).map V.int := by rw [List.map_map]; rfl
section
variable {K : PySem.W.Frag} {H : Hp} {Q : VK} {σ : L2.St}
theorem g_clear {l : Addr} {xs : List V} (hl : H l = some (.lst xs)) (h : Q .non (upd H l (.lst []))) : rClear (.ref l) [] H Q := ⟨l, xs, rfl, rfl, hl, h⟩
theorem g_tup3 {p : Addr} {x y z : V} {i j k : Nat} {P : L2.St → Hp → Prop} (hp : H p = some (.tup [x, y, z])) (h : P (((σ.set i (some x)).set j (some y)).set k (some z)) H) : gTup K 3 (gCons (gName i) (gCons (gName j) (gCons (gName k) gNil))) (.ref p) σ H P :=
  ⟨p, _, rfl, sqT hp, rfl, x, _, rfl, y, _, rfl, z, _, rfl, rfl, h⟩
end
theorem WoodOk.low {w : Wd} (h : WoodOk w) : ∀ s ∈ mkNames w, isName s = true := fun s hs => by
  unfold mkNames at hs
  obtain ⟨l, hl, hs⟩ := List.mem_flatten.1 hs
  obtain ⟨k, hk, rfl⟩ := List.mem_map.1 hl
  obtain ⟨m, hm, rfl⟩ := List.mem_map.1 hs
  exact (h.mkr k hk m hm).1
theorem WoodOk.names {w : Wd} (h : WoodOk w) : (mkNames w).length ≤ 12 := by rw [← tab_names w 0, List.length_map]; exact h.many
theorem WoodOk.row {w : Wd} (h : WoodOk w) : ∀ k ∈ w, k.2.length ≤ 1000 := fun k hk => by
  obtain ⟨i, hi⟩ := List.mem_iff_getElem?.1 hk
  have := h.many
  rw [tab_split w 0 i k hi, List.length_append, List.length_append, List.length_map] at this
  omega
def spRightW : Sp := fun vs H Q _ => ∃ (w : Wd) (v : V), vs = [v] ∧ Rep H (woodD w) v ∧ WoodOk w ∧ ∀ H', Ex H H' → Q (.bl true) H'
def spWood : Sp := fun vs H Q _ => ∃ p : Addr, vs = [.ref p, .int 12] ∧ Box H p ∧ ∀ (w : Wd) (v : V) (H' : Hp), WoodOk w → Rep H' (woodD w) v → But p H H' → Box H' p → Q v H'
theorem strs_hard : ∀ ss : List Str, D.hards (ss.map D.str) = true
  | [] => rfl
  | s :: ss => by
    show (D.hard (.str s) && D.hards (ss.map D.str)) = true
    rw [strs_hard ss]
    rfl
theorem mks_hard : ∀ ms : List Mk, D.hards (ms.map mkD) = true
  | [] => rfl
  | m :: ms => by
    show (D.hard (mkD m) && D.hards (ms.map mkD)) = true
    rw [mks_hard ms, Bool.and_true]
    show (D.hard (.str m.1) && (D.hards (m.2.map D.str) && true)) = true
    rw [strs_hard]
    rfl
theorem kinds_hard : ∀ w : Wd, D.hards (w.map kindD) = true
  | [] => rfl
  | k :: w => by
    show (D.hard (kindD k) && D.hards (w.map kindD)) = true
    rw [kinds_hard w, Bool.and_true]
    show (D.hard (.str k.1) && (D.hards (k.2.map mkD) && true)) = true
    rw [mks_hard]
    rfl
theorem wood_hard (w : Wd) : (woodD w).hard = true := by
  show D.hards (w.map kindD) = true
  exact kinds_hard w
/-! ### the rows of a wood that is drawn -/
structure Rows (H : Hp) (ras : List Addr) (R : List (List Mk)) : Prop where
  len : ras.length = R.length
  nd : ras.Nodup
  at_ : ∀ (q : Nat) (a : Addr) (r : List Mk), ras[q]? = some a → R[q]? = some r → ∃ us, H a = some (.lst us) ∧ Reps H (r.map mkD) us
theorem Rows.get {H : Hp} {ras : List Addr} {R : List (List Mk)} (h : Rows H ras R) {q : Nat} (hq : q < R.length) : ∃ a r us, ras[q]? = some a ∧ R[q]? = some r ∧ H a = some (.lst us) ∧ Reps H (r.map mkD) us := by
  have hq2 : q < ras.length := by rw [h.len]; exact hq
  obtain ⟨us, a, b⟩ := h.at_ q _ _ (List.getElem?_eq_getElem hq2) (List.getElem?_eq_getElem hq)
  exact ⟨_, _, us, List.getElem?_eq_getElem hq2, List.getElem?_eq_getElem hq, a, b⟩
/-- what keeps the lists at ras and all tuples -/
theorem Rows.keep {H H' : Hp} {ras : List Addr} {R : List (List Mk)} (h : Rows H ras R) (t : Tk H H') (k : ∀ a ∈ ras, ∀ us, H a = some (.lst us) → H' a = some (.lst us)) : Rows H' ras R := ⟨h.len, h.nd, fun q a r ha hr => by
  obtain ⟨us, hu, rs⟩ := h.at_ q a r ha hr
  exact ⟨us, k a (List.mem_of_getElem? ha) us hu, rs.tk t (mks_hard r)⟩⟩
theorem Rows.put {H : Hp} {ras : List Addr} {R : List (List Mk)} {q : Nat} {a : Addr} {r : List Mk} {us : List V} {m : Mk} {v : V} (h : Rows H ras R) (ha : ras[q]? = some a) (hr : R[q]? = some r) (hu : H a = some (.lst us)) (rs : Reps H (r.map mkD) us) (rv : Rep H (mkD m) v) : Rows (upd H a (.lst (us ++ [v]))) ras (R.set q (r ++ [m])) := by
  have tk : Tk H (upd H a (.lst (us ++ [v]))) := ((But.refl a H).upd).tkl hu
  have hm : (mkD m).hard = true := by
    have := mks_hard [m]
    simpa only [List.map, D.hards, Bool.and_true] using this
  refine ⟨by rw [List.length_set]; exact h.len, h.nd, fun j b s hb hs => ?_⟩
  by_cases c : q = j
  · subst c
    have hl : q < R.length := (List.getElem?_eq_some_iff.1 hr).1
    rw [List.getElem?_set_self hl] at hs
    cases hs
    rw [ha] at hb
    cases hb
    refine ⟨us ++ [v], upd_same, ?_⟩
    rw [List.map_append]
    exact (rs.tk tk (mks_hard r)).append (by simp only [List.map, Reps]; exact ⟨v, [], rfl, rv.tk tk hm, rfl⟩)
  · rw [List.getElem?_set_ne c] at hs
    obtain ⟨ws, hw, rw'⟩ := h.at_ j b s hb hs
    have ne : b ≠ a := fun e => False.elim (by
      rw [e] at hb
      have h1 := (List.getElem?_eq_some_iff.1 ha)
      have h2 := (List.getElem?_eq_some_iff.1 hb)
      have z := List.pairwise_iff_getElem.1 h.nd
      rcases Nat.lt_or_gt_of_ne c with l | l
      · exact absurd (h1.2.trans h2.2.symm) (z q j h1.1 h2.1 l)
      · exact absurd (h2.2.trans h1.2.symm) (z j q h2.1 h1.1 l))
    exact ⟨ws, by rw [upd_ne ne]; exact hw, rw'.tk tk (mks_hard s)⟩
def rowNames (R : List (List Mk)) : List Str := (R.map fun r => r.map Prod.fst).flatten
theorem rowNames_put : ∀ (R : List (List Mk)) (q : Nat) (r : List Mk) (m : Mk), R[q]? = some r → (rowNames (R.set q (r ++ [m]))).Perm (rowNames R ++ [m.1])
  | [], q, r, m, h => by simp at h
  | s :: R, 0, r, m, h => by
    cases h
    show ((s ++ [m]).map Prod.fst ++ rowNames R).Perm (s.map Prod.fst ++ rowNames R ++ [m.1])
    rw [List.map_append, List.append_assoc, List.append_assoc]
    exact List.Perm.append_left _ List.perm_append_comm
  | s :: R, q + 1, r, m, h => by
    show (s.map Prod.fst ++ rowNames (R.set q (r ++ [m]))).Perm (s.map Prod.fst ++ rowNames R ++ [m.1])
    rw [List.append_assoc]
    exact List.Perm.append_left _ (rowNames_put R q r m h)
def MkOk (ks : List Str) (m : Mk) : Prop := isName m.1 = true ∧ m.2.length ≤ 2 ∧ ∀ s ∈ m.2, s ∈ ks
theorem zip_names : ∀ (ks : List Str) (R : List (List Mk)), ks.length = R.length → mkNames (ks.zip R) = rowNames R
  | [], [], _ => rfl
  | [], _ :: _, h => by cases h
  | _ :: _, [], h => by cases h
  | k :: ks, r :: R, h => by
    show r.map Prod.fst ++ mkNames (ks.zip R) = r.map Prod.fst ++ rowNames R
    rw [zip_names ks R (Nat.succ.inj h)]
theorem wood_of {ks ns : List Str} {R : List (List Mk)} (hk : 1 ≤ ks.length ∧ ks.length ≤ 4) (hkn : ∀ k ∈ ks, isName k = true) (hkd : ks.Nodup) (hl : ks.length = R.length) (hR : ∀ r ∈ R, ∀ m ∈ r, MkOk ks m) (hp : (rowNames R).Perm ns) (hnd : ns.Nodup) (hn : ns.length ≤ 12) : WoodOk (ks.zip R) := by
  have e1 : (ks.zip R).map Prod.fst = ks := List.map_fst_zip (by omega)
  have e2 : (tabFrom 0 (ks.zip R)).map (fun e => e.2.1) = rowNames R := (tab_names _ _).trans (zip_names ks R hl)
  refine ⟨by rw [List.length_zip]; omega, fun k hk' => hkn k.1 (e1 ▸ List.mem_map.2 ⟨k, hk', rfl⟩), by rw [e1]; exact hkd, fun k hk' m hm => ?_, by rw [e2]; exact hp.nodup_iff.2 hnd, ?_⟩
  · have := hR k.2 (List.of_mem_zip hk').2 m hm
    rw [e1]
    exact this
  · have := congrArg List.length e2
    rw [List.length_map, hp.length_eq] at this
    omega
theorem zip_reps {H : Hp} : ∀ (ks : List Str) (R : List (List Mk)) (acc : List V), ks.length = R.length → acc.length = ks.length → (∀ (j : Nat) (v : V), acc[j]? = some v → ∃ k r, ks[j]? = some k ∧ R[j]? = some r ∧ Rep H (kindD (k, r)) v) → Reps H ((ks.zip R).map kindD) acc
  | [], [], acc, _, h, _ => by
    have : acc = [] := List.eq_nil_of_length_eq_zero h
    subst this
    simp only [List.zip_nil_left, List.map, Reps]
  | [], _ :: _, _, h, _, _ => by cases h
  | _ :: _, [], _, h, _, _ => by cases h
  | k :: ks, r :: R, [], _, h, _ => by cases h
  | k :: ks, r :: R, v :: acc, h, h2, h3 => by
    obtain ⟨k', r', e1, e2, rv⟩ := h3 0 v rfl
    cases e1
    cases e2
    have z := zip_reps ks R acc (Nat.succ.inj h) (Nat.succ.inj h2) fun j u hj => h3 (j + 1) u hj
    simp only [List.zip_cons_cons, List.map, Reps]
    exact ⟨v, acc, rfl, rv, z⟩
theorem kind_hard (k : Str × List Mk) : (kindD k).hard = true := by
  have := kinds_hard [k]
  simpa only [List.map, D.hards, Bool.and_true] using this
def spWoodM : Sp := fun vs H Q _ => ∃ (p : Addr) (most : Nat), vs = [.ref p, .int (most : Nat)] ∧ Box H p ∧ 1 ≤ most ∧ most ≤ 12 ∧ ∀ (w : Wd) (v : V) (H' : Hp), WoodOk w → Rep H' (woodD w) v → But p H H' → Box H' p → Q v H'
end Bk

set_option Elab.async false
set_option linter.all false
set_option maxRecDepth 100000
set_option maxHeartbeats 4000000
/-! Bk15: own errors with fields over ValueError. -/
namespace Bk
open PySem PySem.Spec PyProof.Rows L2
def bmVE : List Value := [.type "ValueError", .type "Exception", .type "BaseException", .type "object"]
def spExc1 (K : PySem.W.Frag) (bm : List Value) (f : Str) : Sp := fun vs H Q _ => ∃ (a C : Addr) (y : V), vs = [.ref a, y] ∧ OexB K C "ValueError.__new__" bm ∧ OexC K C ∧ PySem.W.findIn K (.ref C) f = some none ∧ H a = some (exo a C none) ∧
  ∀ dx, H dx = none → dx ≠ a → Q .non (upd (upd H dx (exd dx [(f, y)])) a (exo a C (some dx)))
def spExc2 (K : PySem.W.Frag) (bm : List Value) (f g : Str) : Sp := fun vs H Q _ => ∃ (a C : Addr) (y z : V), vs = [.ref a, y, z] ∧ OexB K C "ValueError.__new__" bm ∧ OexC K C ∧ PySem.W.findIn K (.ref C) f = some none ∧ PySem.W.findIn K (.ref C) g = some none ∧ H a = some (exo a C none) ∧
  ∀ dx, H dx = none → dx ≠ a → Q .non (upd (upd (upd H dx (exd dx [(f, y)])) a (exo a C (some dx))) dx (exd dx [(g, z), (f, y)]))
section
variable {K : PySem.W.Frag} {bm : List Value} {C : Addr} {H1 : Hp} {Q : XK} {f g : Str} {y z : V}
theorem end_exc1 (x : OexB K C "ValueError.__new__" bm) (o : OexC K C) (n : PySem.W.findIn K (.ref C) f = some none) (h : ∀ d H', Ex H1 H' → H' d = some (.xd [(f, y)]) → Q (.ref C) (some d) H') :
    [y].length ≤ 1000 ∧ ∀ a, H1 a = none → spExc1 K bm f (.ref a :: ([y] ++ [])) (upd H1 a (exo a C none)) (fun v H2 => v = .non ∧ ∃ (d : Addr) (fs : List (Str × V)), H2 a = some (exo a C (some d)) ∧ H2 d = some (exd d fs) ∧ H1 d = none ∧ Q (.ref C) (some d) (upd (del H2 a) d (.xd fs))) (fun _ _ _ => False) := by
  refine ⟨(show 1 ≤ 1000 by decide), fun a ha => ⟨a, C, y, rfl, x, o, n, upd_same, fun dx hdx ne => ⟨rfl, dx, [(f, y)], upd_same, ?_, ?_, h dx _ (fun b u hu => ?_) upd_same⟩⟩⟩
  · rw [upd_ne ne, upd_same]
  · rwa [upd_ne ne] at hdx
  · have nb : b ≠ a := ne_of_none hu ha
    have nd : b ≠ dx := fun e => by rw [e] at hu; rw [upd_ne ne, hu] at hdx; cases hdx
    rw [upd_ne nd, del_ne nb, upd_ne nb, upd_ne nd, upd_ne nb]
    exact hu
theorem end_exc2 (x : OexB K C "ValueError.__new__" bm) (o : OexC K C) (n : PySem.W.findIn K (.ref C) f = some none) (n2 : PySem.W.findIn K (.ref C) g = some none) (h : ∀ d H', Ex H1 H' → H' d = some (.xd [(g, z), (f, y)]) → Q (.ref C) (some d) H') :
    [y, z].length ≤ 1000 ∧ ∀ a, H1 a = none → spExc2 K bm f g (.ref a :: ([y, z] ++ [])) (upd H1 a (exo a C none)) (fun v H2 => v = .non ∧ ∃ (d : Addr) (fs : List (Str × V)), H2 a = some (exo a C (some d)) ∧ H2 d = some (exd d fs) ∧ H1 d = none ∧ Q (.ref C) (some d) (upd (del H2 a) d (.xd fs))) (fun _ _ _ => False) := by
  refine ⟨(show 2 ≤ 1000 by decide), fun a ha => ⟨a, C, y, z, rfl, x, o, n, n2, upd_same, fun dx hdx ne => ⟨rfl, dx, [(g, z), (f, y)], ?_, upd_same, ?_, h dx _ (fun b u hu => ?_) upd_same⟩⟩⟩
  · rw [upd_ne (Ne.symm ne), upd_same]
  · rwa [upd_ne ne] at hdx
  · have nb : b ≠ a := ne_of_none hu ha
    have nd : b ≠ dx := fun e => by rw [e] at hu; rw [upd_ne ne, hu] at hdx; cases hdx
    rw [upd_ne nd, del_ne nb, upd_ne nd, upd_ne nb, upd_ne nd, upd_ne nb]
    exact hu
end
end Bk

namespace Lw
open PySem PySem.Spec PyProof.Rows L2 Bk

local macro_rules | `(tactic| walk_at "side") => `(tactic| first | assumption | decide | omega | exact .inl (.inl ⟨by decide, by decide⟩) | exact .inl (.inr ⟨by decide, by decide⟩) | exact ⟨by decide, by decide, by decide⟩ | exact ⟨by decide, by decide⟩)
local macro_rules | `(tactic| walk_at "heap") => `(tactic| first | assumption | exact upd_same | (refine Eq.trans (upd_ne (ne_of_none (by assumption) (by assumption))) ?_; assumption))
local macro_rules | `(tactic| walk_at "go1") => `(tactic| with_reducible first
  | refine g_seq ?_ | refine g_asg ?_ | refine g_ret ?_ | refine g_retN ?_ | refine g_drop ?_ | refine g_ifs ?_ | refine g_next ?_ | refine g_par ?_ | refine g_pair ?_ | refine g_name ?_ | refine g_sub ?_
  | refine g_c ?_ | refine g_op ?_ | refine g_un ?_ | refine g_cons ?_ | refine g_nil ?_ | refine g_cb ?_ | refine g_call ?_ | refine g_if ?_ | refine g_iT ?_ | refine g_iF ?_ | refine g_iNT ?_ | refine g_iNF ?_ | refine g_notV ?_ | refine g_not ?_ | refine g_and ?_ | refine g_or ?_
  | refine g_uT ?_ | refine g_test ?_ | refine g_tB ?_ | refine g_bl ?_ | refine g_chain ?_ | refine g_andV ?_ | refine g_orV ?_ | refine g_tbl ?_ | refine g_tin ?_ | refine g_addI ?_ | refine g_i0 ?_ | refine g_neg ?_ | refine g_eqI ?_ | refine g_neI ?_ | refine g_eqS ?_ | refine g_neS ?_ | refine g_neBB ?_ | refine g_neB ?_ | refine g_lz ?_ | refine g_bmS ?_ | refine g_tyStr ?_ | refine g_tyS ?_ | refine g_dnew ?_ | refine g_lcU ?_ | refine g_yes ?_ | refine g_dg ?_ | refine g_di ?_ | refine g_dni ?_ | refine g_dp ?_ | refine g_ds ?_ | refine g_for ?_ | refine g_rng1 ?_ | refine g_rng2 ?_ | refine g_zipA ?_ | refine g_sl ?_ | refine g_noP ?_ | refine g_part ?_ | refine g_exI ?_ | refine g_isNn ?_ | refine g_isNr ?_ | refine g_isNi ?_ | refine g_notNn ?_ | refine g_notNr ?_ | refine g_notNi ?_
  | refine g_abs ?_ | refine g_max ?_ | refine g_min ?_ | refine g_intI ?_ | refine g_intB ?_ | refine g_tup ?_ | refine g_lst ?_ | refine g_bm0 ?_ | refine g_bm ?_)
local macro_rules | `(tactic| walk_at "go2") => `(tactic| first
  | refine g_var rfl ?_ | (refine g_i ?_ (by walk_at "side"))
  | (refine g_lenL (by assumption) ?_) | (refine g_lenT (by assumption) ?_) | (refine g_lenSq (by assumption) ?_)
  | (refine g_ixL (by assumption) (by rfl) ?_) | (refine g_ixT (by assumption) (by rfl) ?_)
  | (refine g_tyL (by assumption) ?_))
local macro_rules | `(tactic| walk_at "go") => `(tactic| repeat (first | walk_at "go1" | walk_at "go2"))

def top (i : Nat) : Stmt := PySem.Challenge.pw_boughkept_k06_woods_and_names.main.body.getD i (.Pass ⟨0, 0, 0, 0⟩)
abbrev sI_NoWood : Stmt := inClass (top 2) 0
theorem scI_NoWood : FnScope ["self", "word", "name"] ["self", "word", "name"] (defScope sI_NoWood) := ⟨rfl, rfl, rfl, by decide +kernel, rfl, by decide +kernel, by decide +kernel⟩
abbrev s_is_name : Stmt := top 9
abbrev N_is_name : List Str := ["text", "sign"]
theorem sc_is_name : FnScope ["text", "sign"] ["text"] (defScope s_is_name) := ⟨rfl, rfl, rfl, by decide +kernel, rfl, by decide +kernel, by decide +kernel⟩
abbrev s_need : Stmt := top 10
abbrev N_need : List Str := ["good", "word", "name"]
theorem sc_need : FnScope ["good", "word", "name"] ["good", "word", "name"] (defScope s_need) := ⟨rfl, rfl, rfl, by decide +kernel, rfl, by decide +kernel, by decide +kernel⟩
abbrev s_look_wood : Stmt := top 11
abbrev N_look_wood : List Str := ["wood", "kinds", "name", "makers"]
theorem sc_look_wood : FnScope ["wood", "kinds", "name", "makers"] ["wood"] (defScope s_look_wood) := ⟨rfl, rfl, rfl, by decide +kernel, rfl, by decide +kernel, by decide +kernel⟩
abbrev s_look_makers : Stmt := top 12
abbrev N_look_makers : List Str := ["wood", "kinds", "seen", "kind", "makers", "name", "parts", "part"]
theorem sc_look_makers : FnScope ["wood", "kinds", "seen", "kind", "makers", "name", "parts", "part"] ["wood", "kinds"] (defScope s_look_makers) := ⟨rfl, rfl, rfl, by decide +kernel, rfl, by decide +kernel, by decide +kernel⟩
abbrev s_kinds_by_name : Stmt := top 13
abbrev N_kinds_by_name : List Str := ["wood", "number", "name", "makers"]
theorem sc_kinds_by_name : FnScope ["wood", "number", "name", "makers"] ["wood"] (defScope s_kinds_by_name) := ⟨rfl, rfl, rfl, by decide +kernel, rfl, by decide +kernel, by decide +kernel⟩
abbrev s_makers_of : Stmt := top 14
abbrev N_makers_of : List Str := ["wood", "found", "kind", "makers", "name", "parts"]
theorem sc_makers_of : FnScope ["wood", "found", "kind", "makers", "name", "parts"] ["wood"] (defScope s_makers_of) := ⟨rfl, rfl, rfl, by decide +kernel, rfl, by decide +kernel, by decide +kernel⟩
abbrev s_maker_table : Stmt := top 15
abbrev N_maker_table : List Str := ["wood", "kinds", "found", "number", "kind", "makers", "name", "parts", "part"]
theorem sc_maker_table : FnScope ["wood", "kinds", "found", "number", "kind", "makers", "name", "parts", "part"] ["wood"] (defScope s_maker_table) := ⟨rfl, rfl, rfl, by decide +kernel, rfl, by decide +kernel, by decide +kernel⟩
abbrev s_kind_of : Stmt := top 16
abbrev N_kind_of : List Str := ["wood", "maker"]
theorem sc_kind_of : FnScope ["wood", "maker"] ["wood", "maker"] (defScope s_kind_of) := ⟨rfl, rfl, rfl, by decide +kernel, rfl, by decide +kernel, by decide +kernel⟩
abbrev s_parts_of : Stmt := top 17
abbrev N_parts_of : List Str := ["wood", "maker"]
theorem sc_parts_of : FnScope ["wood", "maker"] ["wood", "maker"] (defScope s_parts_of) := ⟨rfl, rfl, rfl, by decide +kernel, rfl, by decide +kernel, by decide +kernel⟩
abbrev s_law_box : Stmt := top 19
abbrev N_law_box : List Str := ["_law_script", "_law_k", "_law_cell", "_law_seed"]
theorem sc_law_box : FnScope ["_law_script", "_law_k", "_law_cell", "_law_seed"] ["_law_script", "_law_k"] (defScope s_law_box) := ⟨rfl, rfl, rfl, by decide +kernel, rfl, by decide +kernel, by decide +kernel⟩
abbrev s_law_take : Stmt := top 20
abbrev N_law_take : List Str := ["_law_box_here", "_law_many", "_law_digit", "_law_one"]
theorem sc_law_take : FnScope ["_law_box_here", "_law_many", "_law_digit", "_law_one"] ["_law_box_here", "_law_many"] (defScope s_law_take) := ⟨rfl, rfl, rfl, by decide +kernel, rfl, by decide +kernel, by decide +kernel⟩
abbrev s_law_names : Stmt := top 21
abbrev N_law_names : List Str := ["_law_box_here", "_law_many", "_law_letters", "_law_stem", "_law_found", "_law_k", "_law_form", "_law_at", "_law_name", "_law_j"]
theorem sc_law_names : FnScope ["_law_box_here", "_law_many", "_law_letters", "_law_stem", "_law_found", "_law_k", "_law_form", "_law_at", "_law_name", "_law_j"] ["_law_box_here", "_law_many"] (defScope s_law_names) := ⟨rfl, rfl, rfl, by decide +kernel, rfl, by decide +kernel, by decide +kernel⟩
abbrev s_law_wood : Stmt := top 22
abbrev N_law_wood : List Str := ["_law_box_here", "_law_most", "_law_plain", "_law_many", "_law_kinds", "_law_some", "_law_names_here", "_law_rows", "_law_k", "_law_name", "_law_kind", "_law_wide", "_law_parts", "_law_j", "_law_row"]
theorem sc_law_wood : FnScope ["_law_box_here", "_law_most", "_law_plain", "_law_many", "_law_kinds", "_law_some", "_law_names_here", "_law_rows", "_law_k", "_law_name", "_law_kind", "_law_wide", "_law_parts", "_law_j", "_law_row"] ["_law_box_here", "_law_most"] (defScope s_law_wood) := ⟨rfl, rfl, rfl, by decide +kernel, rfl, by decide +kernel, by decide +kernel⟩
abbrev s_law_makers : Stmt := top 23
abbrev N_law_makers : List Str := ["_law_wood_here", "_law_kinds", "_law_found", "_law_kind", "_law_name", "_law_makers_here", "_law_maker", "_law_parts", "_law_part"]
theorem sc_law_makers : FnScope ["_law_wood_here", "_law_kinds", "_law_found", "_law_kind", "_law_name", "_law_makers_here", "_law_maker", "_law_parts", "_law_part"] ["_law_wood_here"] (defScope s_law_makers) := ⟨rfl, rfl, rfl, by decide +kernel, rfl, by decide +kernel, by decide +kernel⟩
abbrev s_law_is_name : Stmt := top 24
abbrev N_law_is_name : List Str := ["_law_text", "_law_sign"]
theorem sc_law_is_name : FnScope ["_law_text", "_law_sign"] ["_law_text"] (defScope s_law_is_name) := ⟨rfl, rfl, rfl, by decide +kernel, rfl, by decide +kernel, by decide +kernel⟩
abbrev s_law_any_text : Stmt := top 25
abbrev N_law_any_text : List Str := ["_law_box_here", "_law_some", "_law_signs", "_law_many", "_law_k"]
theorem sc_law_any_text : FnScope ["_law_box_here", "_law_some", "_law_signs", "_law_many", "_law_k"] ["_law_box_here"] (defScope s_law_any_text) := ⟨rfl, rfl, rfl, by decide +kernel, rfl, by decide +kernel, by decide +kernel⟩
abbrev s_law_alike : Stmt := top 26
abbrev N_law_alike : List Str := ["_law_found", "_law_due", "_law_left", "_law_one", "_law_other"]
theorem sc_law_alike : FnScope ["_law_found", "_law_due", "_law_left", "_law_one", "_law_other"] ["_law_found", "_law_due"] (defScope s_law_alike) := ⟨rfl, rfl, rfl, by decide +kernel, rfl, by decide +kernel, by decide +kernel⟩
abbrev s_law_right : Stmt := top 27
abbrev N_law_right : List Str := ["_law_wood_here", "_law_due", "_law_found", "_law_name", "_law_kind", "_law_parts", "_law_makers_here"]
theorem sc_law_right : FnScope ["_law_wood_here", "_law_due", "_law_found", "_law_name", "_law_kind", "_law_parts", "_law_makers_here"] ["_law_wood_here"] (defScope s_law_right) := ⟨rfl, rfl, rfl, by decide +kernel, rfl, by decide +kernel, by decide +kernel⟩
abbrev s_law : Stmt := top 28
abbrev N_law : List Str := ["_law_script", "_law_woods", "_law_k", "_law_box_here", "_law_turn", "_law_text", "_law_wood_here"]
theorem sc_law : FnScope ["_law_script", "_law_woods", "_law_k", "_law_box_here", "_law_turn", "_law_text", "_law_wood_here"] ["_law_script"] (defScope s_law) := ⟨rfl, rfl, rfl, by decide +kernel, rfl, by decide +kernel, by decide +kernel⟩
structure Txt (K : PySem.W.Frag) (mg : Str → Option Value) where
  a_BoughError : Addr
  m_BoughError : mg "BoughError" = some (.ref a_BoughError)
  x_BoughError : OexB K a_BoughError "ValueError.__new__" [.type "ValueError", .type "Exception", .type "BaseException", .type "object"]
  e_BoughError : PySem.W.exmOne K (.ref a_BoughError) (.ref a_BoughError) = some true
  c_BoughError : ExcC K a_BoughError
  i0_BoughError : PySem.W.isClsIn K a_BoughError = true
  t0_BoughError : PySem.W.typeIn K (.ref a_BoughError) = some (.type "type")
  s0_BoughError : PySem.W.subIn K (.ref a_BoughError) (.ref a_BoughError) = some true
  h_BoughError : XiC K a_BoughError "ValueError.__init__"
  a_NoWood : Addr
  m_NoWood : mg "NoWood" = some (.ref a_NoWood)
  x_NoWood : OexB K a_NoWood "ValueError.__new__" [.type "ValueError", .type "Exception", .type "BaseException", .type "object"]
  e_NoWood : PySem.W.exmOne K (.ref a_NoWood) (.ref a_NoWood) = some true
  c_NoWood : ExcC K a_NoWood
  i0_NoWood : PySem.W.isClsIn K a_NoWood = true
  t0_NoWood : PySem.W.typeIn K (.ref a_NoWood) = some (.type "type")
  s0_NoWood : PySem.W.subIn K (.ref a_NoWood) (.ref a_NoWood) = some true
  o_NoWood : OexC K a_NoWood
  aI_NoWood : Addr
  dI_NoWood : FuncData
  FI_NoWood : Fun K "__init__" "NoWood.__init__" sI_NoWood aI_NoWood dI_NoWood
  bI_NoWood : Binds K dI_NoWood ["self", "word", "name"] []
  i_NoWood : PySem.W.findIn K (.ref a_NoWood) "__init__" = some (some (.ref aI_NoWood))
  t_NoWood : PySem.W.typeIn K (.ref aI_NoWood) = some (.type "function")
  n_NoWood_word : PySem.W.findIn K (.ref a_NoWood) "word" = some none
  n_NoWood_name : PySem.W.findIn K (.ref a_NoWood) "name" = some none
  v_ValueError : PySem.W.findCls K (.type "ValueError") (.type "type") "__init__" = some (.val (.builtin "ValueError.__init__"))
  m_LETTERS : ∃ u, mg "LETTERS" = some u ∧ RelV (.str "abcdefghijklmnopqrstuvwxyz") u
  m_MOST_LETTERS : ∃ u, mg "MOST_LETTERS" = some u ∧ RelV (.int 6) u
  m_MOST_KINDS : ∃ u, mg "MOST_KINDS" = some u ∧ RelV (.int 4) u
  m_MOST_PARTS : ∃ u, mg "MOST_PARTS" = some u ∧ RelV (.int 2) u
  m_MOST_MAKERS : ∃ u, mg "MOST_MAKERS" = some u ∧ RelV (.int 12) u
  a_is_name : Addr
  d_is_name : FuncData
  m_is_name : mg "is_name" = some (.ref a_is_name)
  b_is_name : Binds K d_is_name ["text"] []
  F_is_name : Fun K "is_name" "is_name" s_is_name a_is_name d_is_name
  a_need : Addr
  d_need : FuncData
  m_need : mg "need" = some (.ref a_need)
  b_need : Binds K d_need ["good", "word", "name"] []
  F_need : FunD K "need" "need" (defArgs s_need) (defBody s_need) (defScope s_need) [.str ""] [] a_need d_need
  bv_need1 : ∃ ds, Vals [.str ""] ds ∧ Binds K d_need ["good", "word", "name"] ds
  a_look_wood : Addr
  d_look_wood : FuncData
  m_look_wood : mg "look_wood" = some (.ref a_look_wood)
  b_look_wood : Binds K d_look_wood ["wood"] []
  F_look_wood : Fun K "look_wood" "look_wood" s_look_wood a_look_wood d_look_wood
  a_look_makers : Addr
  d_look_makers : FuncData
  m_look_makers : mg "look_makers" = some (.ref a_look_makers)
  b_look_makers : Binds K d_look_makers ["wood", "kinds"] []
  F_look_makers : Fun K "look_makers" "look_makers" s_look_makers a_look_makers d_look_makers
  a_kinds_by_name : Addr
  d_kinds_by_name : FuncData
  m_kinds_by_name : mg "kinds_by_name" = some (.ref a_kinds_by_name)
  b_kinds_by_name : Binds K d_kinds_by_name ["wood"] []
  F_kinds_by_name : Fun K "kinds_by_name" "kinds_by_name" s_kinds_by_name a_kinds_by_name d_kinds_by_name
  a_makers_of : Addr
  d_makers_of : FuncData
  m_makers_of : mg "makers_of" = some (.ref a_makers_of)
  b_makers_of : Binds K d_makers_of ["wood"] []
  F_makers_of : Fun K "makers_of" "makers_of" s_makers_of a_makers_of d_makers_of
  a_maker_table : Addr
  d_maker_table : FuncData
  m_maker_table : mg "maker_table" = some (.ref a_maker_table)
  b_maker_table : Binds K d_maker_table ["wood"] []
  F_maker_table : Fun K "maker_table" "maker_table" s_maker_table a_maker_table d_maker_table
  a_kind_of : Addr
  d_kind_of : FuncData
  m_kind_of : mg "kind_of" = some (.ref a_kind_of)
  b_kind_of : Binds K d_kind_of ["wood", "maker"] []
  F_kind_of : Fun K "kind_of" "kind_of" s_kind_of a_kind_of d_kind_of
  a_parts_of : Addr
  d_parts_of : FuncData
  m_parts_of : mg "parts_of" = some (.ref a_parts_of)
  b_parts_of : Binds K d_parts_of ["wood", "maker"] []
  F_parts_of : Fun K "parts_of" "parts_of" s_parts_of a_parts_of d_parts_of
  a_law_box : Addr
  d_law_box : FuncData
  m_law_box : mg "_law_box" = some (.ref a_law_box)
  b_law_box : Binds K d_law_box ["_law_script", "_law_k"] []
  F_law_box : Fun K "_law_box" "_law_box" s_law_box a_law_box d_law_box
  a_law_take : Addr
  d_law_take : FuncData
  m_law_take : mg "_law_take" = some (.ref a_law_take)
  b_law_take : Binds K d_law_take ["_law_box_here", "_law_many"] []
  F_law_take : Fun K "_law_take" "_law_take" s_law_take a_law_take d_law_take
  a_law_names : Addr
  d_law_names : FuncData
  m_law_names : mg "_law_names" = some (.ref a_law_names)
  b_law_names : Binds K d_law_names ["_law_box_here", "_law_many"] []
  F_law_names : Fun K "_law_names" "_law_names" s_law_names a_law_names d_law_names
  a_law_wood : Addr
  d_law_wood : FuncData
  m_law_wood : mg "_law_wood" = some (.ref a_law_wood)
  b_law_wood : Binds K d_law_wood ["_law_box_here", "_law_most"] []
  F_law_wood : Fun K "_law_wood" "_law_wood" s_law_wood a_law_wood d_law_wood
  a_law_makers : Addr
  d_law_makers : FuncData
  m_law_makers : mg "_law_makers" = some (.ref a_law_makers)
  b_law_makers : Binds K d_law_makers ["_law_wood_here"] []
  F_law_makers : Fun K "_law_makers" "_law_makers" s_law_makers a_law_makers d_law_makers
  a_law_is_name : Addr
  d_law_is_name : FuncData
  m_law_is_name : mg "_law_is_name" = some (.ref a_law_is_name)
  b_law_is_name : Binds K d_law_is_name ["_law_text"] []
  F_law_is_name : Fun K "_law_is_name" "_law_is_name" s_law_is_name a_law_is_name d_law_is_name
  a_law_any_text : Addr
  d_law_any_text : FuncData
  m_law_any_text : mg "_law_any_text" = some (.ref a_law_any_text)
  b_law_any_text : Binds K d_law_any_text ["_law_box_here"] []
  F_law_any_text : Fun K "_law_any_text" "_law_any_text" s_law_any_text a_law_any_text d_law_any_text
  a_law_alike : Addr
  d_law_alike : FuncData
  m_law_alike : mg "_law_alike" = some (.ref a_law_alike)
  b_law_alike : Binds K d_law_alike ["_law_found", "_law_due"] []
  F_law_alike : Fun K "_law_alike" "_law_alike" s_law_alike a_law_alike d_law_alike
  a_law_right : Addr
  d_law_right : FuncData
  m_law_right : mg "_law_right" = some (.ref a_law_right)
  b_law_right : Binds K d_law_right ["_law_wood_here"] []
  F_law_right : Fun K "_law_right" "_law_right" s_law_right a_law_right d_law_right
  a_law : Addr
  d_law : FuncData
  m_law : mg "law" = some (.ref a_law)
  b_law : Binds K d_law ["_law_script"] []
  F_law : Fun K "law" "law" s_law a_law d_law
  z_ValueError : mg "ValueError" = none
  z_all : mg "all" = none
  z_bool : mg "bool" = none
  z_dict : mg "dict" = none
  z_enumerate : mg "enumerate" = none
  z_int : mg "int" = none
  z_isinstance : mg "isinstance" = none
  z_len : mg "len" = none
  z_list : mg "list" = none
  z_max : mg "max" = none
  z_min : mg "min" = none
  z_range : mg "range" = none
  z_tuple : mg "tuple" = none
  z_zip : mg "zip" = none
section
variable {P : Program} {w : World} {K : PySem.W.Frag} {mg : Str → Option Value} {base : Heap}
/-! NoWood: never raised here -/

theorem isName_no {z : Str} (h : ¬ (1 ≤ z.length ∧ z.length ≤ 6)) : isName z = false := by
  unfold isName
  rw [decide_eq_false h, Bool.and_false, Bool.false_and]
theorem isName_yes {z : Str} (h0 : z ≠ "kind") (h : 1 ≤ z.length ∧ z.length ≤ 6) : isName z = z.cps.toList.all fun c => decide (c ∈ lettersS.cps.toList) := by
  unfold isName
  rw [decide_eq_true h, decide_eq_false h0]
  rfl
theorem ok_is_name (T : Txt K mg) : FnOk P w K mg base (L2.CX P w) 1 T.a_is_name T.d_is_name ["text"] spIsName := by
  refine T.F_is_name.okX sc_is_name (fun vs H Q E h => ?_) (fun cdv A outer s H vs Q E hr h => ?_)
  · obtain ⟨_, rfl, _⟩ := h
    rfl
  obtain ⟨z, rfl, hz, q⟩ := h
  refine ⟨_, (pss_cons (ps_if (PW.pt (pw_or (pt_cmpR op_eq (uv 0) pe_str (nomark _)) (pw_or1 (pt_not (pt_chain uo_le uo_le pe_int (pe_callB uk_len rfl T.z_len boot_len (pa_cons (uv 0) pa_nil)) (pe_con rfl T.m_MOST_LETTERS)))))) (pss_one (ps_ret pe_bl)) pss_nil)
      (pss_one (ps_ret (pe_callB (cr_all rfl) rfl T.z_all boot_all (pa_cons (pe_lc (own := [("sign", 1)]) (g := gName 1) rfl sc_is_name.nd (ui_seq (uv 0)) (blkOk_by (own := [("sign", 1)]) (N := N_is_name) (sc := defScope s_is_name) (by decide +kernel)) (fun _ _ _ _ _ => (pg_name (i := 1) sc_is_name.nd rfl (by first | exact Or.inl rfl | exact Or.inr rfl))) (fun _ _ _ _ _ => pts_nil) (fun _ _ _ _ _ => (pe_cmpR (show OpR _ (compareOp .In) (uIn K false) from uo_in) (uv 1) (pe_con rfl T.m_LETTERS) rfl))) pa_nil))))), ?_⟩
  have hz2 : z.length ≤ 1000000 := Nat.le_trans hz (by decide)
  have fin : ∀ b, b = isName z → ∀ H', Ex H H' → Q (.bl b) H' := fun b e H' x => e ▸ q H' x
  walk_at "go"
  refine i_eqS (fun c => ?_) fun c => ?_
  · walk_at "go"
    exact fin _ (by subst c; decide) _ (Ex.refl _)
  · walk_at "go"
    refine g_lenStr hz2 ?_
    walk_at "go"
    refine i_d (fun c1 => ?_) fun c1 => ?_
    · walk_at "go"
      refine i_n (fun c2 => ?_) fun c2 => ?_
      · walk_at "go"
        exact fin _ (isName_no (by omega)).symm _ (Ex.refl _)
      · walk_at "go"
        refine g_seqSs ?_
        walk_at "go"
        refine ⟨_, rfl, fun D hD => ?_⟩
        refine lc_mapE walk_str (fun i _ v => ∃ c, z.cps.toList[i]? = some c ∧ v = .bl (decide (c ∈ lettersS.cps.toList))) (by show z.length ≤ _; omega) hD (fun _ _ _ _ _ r => r) (fun _ _ => trivial) ?_ ?_
        · rintro i x H2 H3 P N hi e ⟨rfl, c, hc, rfl⟩ k
          walk_at "go"
          refine ⟨rfl, ?_⟩
          walk_at "go"
          refine g_inS rfl ?_
          exact k _ _ (Ex.refl _) ⟨c, by simpa using hc, rfl⟩
        · intro H2 acc e2 ha hl hr
          walk_at "go"
          have ea : acc = (z.cps.toList.map fun c => decide (c ∈ lettersS.cps.toList)).map V.bl := by
            refine List.ext_getElem? fun j => ?_
            cases h : acc[j]? with
            | none =>
              have := List.getElem?_eq_none_iff.1 h
              symm
              rw [List.getElem?_eq_none_iff, List.length_map, List.length_map]
              have hz3 : z.cps.toList.length = z.cps.size := by simp
              omega
            | some v =>
              obtain ⟨c, hc, rfl⟩ := hr j v h
              rw [List.getElem?_map, List.getElem?_map, hc]
              rfl
          refine g_all (ea ▸ ha) ?_
          refine fin _ ?_ _ e2
          rw [isName_yes c ⟨by omega, by omega⟩, List.all_map]
          rfl
    · walk_at "go"
      exact fin _ (isName_no (by omega)).symm _ (Ex.refl _)

theorem ok_kinds_by_name (T : Txt K mg) : FnOk P w K mg base (L2.CX P w) 1 T.a_kinds_by_name T.d_kinds_by_name ["wood"] spKinds := by
  refine T.F_kinds_by_name.okX sc_kinds_by_name (fun vs H Q E h => ?_) (fun cdv A outer s H vs Q E hr h => ?_)
  · obtain ⟨_, _, rfl, _⟩ := h
    rfl
  obtain ⟨wd, v, rfl, rv, hl, q⟩ := h
  refine ⟨_, (pss_one (ps_ret (pe_callTy (call_dictP rfl) rfl T.z_dict boot_dict (pa_cons (pe_lc (own := [("number", 1), ("name", 2), ("makers", 3)]) (g := gTup K 2 (gCons (gName 1) (gCons (gTup K 2 (gCons (gName 2) (gCons (gName 3) gNil))) gNil))) rfl sc_kinds_by_name.nd (ui_enum rfl T.z_enumerate (pa_cons (uv 0) pa_nil)) (blkOk_by (own := [("number", 1), ("name", 2), ("makers", 3)]) (N := N_kinds_by_name) (sc := defScope s_kinds_by_name) (by decide +kernel)) (fun _ _ _ _ _ => (pg_tup rfl (pgs_cons (pg_name (i := 1) sc_kinds_by_name.nd rfl (by first | exact Or.inl rfl | exact Or.inr rfl)) (pgs_cons (pg_tup rfl (pgs_cons (pg_name (i := 2) sc_kinds_by_name.nd rfl (by first | exact Or.inl rfl | exact Or.inr rfl)) (pgs_cons (pg_name (i := 3) sc_kinds_by_name.nd rfl (by first | exact Or.inl rfl | exact Or.inr rfl)) pgs_nil))) pgs_nil)))) (fun _ _ _ _ _ => pts_nil) (fun _ _ _ _ _ => (pe_tup (pa_cons (uv 2) (pa_cons (uv 1) pa_nil))))) pa_nil)))), ?_⟩
  obtain ⟨a, xs, rfl, ha, rs⟩ := rv.tupI
  have lx : xs.length = wd.length := by rw [rs.len, List.length_map]
  walk_at "go"
  refine g_enT ?_
  walk_at "go"
  refine ⟨_, xs, rfl, sqT ha, fun D hD => ?_⟩
  refine lc_mapE walk_enumT (fun i H v => ∃ p k, v = .ref p ∧ wd[i]? = some k ∧ H p = some (.tup [.str k.1, .int (i : Nat)])) (by omega) hD (fun j H H' v t r => ?_) (fun H e => sqT (e _ _ ha)) ?_ ?_
  · obtain ⟨p, k, rfl, a1, a2⟩ := r
    exact ⟨p, k, rfl, a1, t _ _ a2⟩
  · rintro i x H2 H3 P N hi e ⟨t, y, z, rfl, ht, rfl, ey, ez⟩ k
    cases ey
    obtain ⟨kd, b, c, ys, ek, rfl, hb, hc, _⟩ := wood_at rs ez
    refine g_tup2 upd_same ?_
    walk_at "go"
    have e1 := Ex.new (o := .tup [.int (i : Nat), .ref b]) ht
    refine g_tup2 (e1 _ _ (e _ _ hb)) ?_
    walk_at "go"
    refine ⟨rfl, ?_⟩
    walk_at "go"
    refine g_new fun p hp => ?_
    exact k _ _ (e1.trans (Ex.new hp)) ⟨p, kd, rfl, ek, upd_same⟩
  · intro H2 acc e2 hacc hla hr2
    obtain ⟨ps, rfl, hps⟩ := paired_of wd 0 acc (by omega) fun j v hj => by
      obtain ⟨p, k, a1, a2, a3⟩ := hr2 j v hj
      exact ⟨p, k, a1, a2, by rw [Nat.zero_add]; exact a3⟩
    walk_at "go"
    refine ⟨_, ps, _, rfl, sqL hacc, hps _, fun p hp => ?_⟩
    exact q _ _ (e2.free hp) (e2.trans (Ex.new hp)) upd_same

theorem ok_makers_of (T : Txt K mg) : FnOk P w K mg base (L2.CX P w) 1 T.a_makers_of T.d_makers_of ["wood"] spMakersOf := by
  refine T.F_makers_of.okX sc_makers_of (fun vs H Q E h => ?_) (fun cdv A outer s H vs Q E hr h => ?_)
  · obtain ⟨_, _, rfl, _⟩ := h
    rfl
  obtain ⟨wd, v, rfl, rv, hl, hm, q⟩ := h
  refine ⟨_, (pss_cons (ps_set (i := 1) sc_makers_of.nd rfl (by first | exact Or.inl rfl | exact Or.inr rfl) (pe_lst pa_nil))
      (pss_cons (ps_for (passes_of rfl) rfl (ui_seq (uv 0)) (pg_tup rfl (pgs_cons (pg_name (i := 2) sc_makers_of.nd rfl (by first | exact Or.inl rfl | exact Or.inr rfl)) (pgs_cons (pg_name (i := 3) sc_makers_of.nd rfl (by first | exact Or.inl rfl | exact Or.inr rfl)) pgs_nil))) (pss_one (ps_aug (i := 1) sc_makers_of.nd rfl (by first | exact Or.inl rfl | exact Or.inr rfl) (pe_lc (own := [("name", 4), ("parts", 5)]) (g := gTup K 2 (gCons (gName 4) (gCons (gName 5) gNil))) rfl sc_makers_of.nd (ui_seq (uv 3)) (blkOk_by (own := [("name", 4), ("parts", 5)]) (N := N_makers_of) (sc := defScope s_makers_of) (by decide +kernel)) (fun _ _ _ _ _ => (pg_tup rfl (pgs_cons (pg_name (i := 4) sc_makers_of.nd rfl (by first | exact Or.inl rfl | exact Or.inr rfl)) (pgs_cons (pg_name (i := 5) sc_makers_of.nd rfl (by first | exact Or.inl rfl | exact Or.inr rfl)) pgs_nil)))) (fun _ _ _ _ _ => pts_nil) (fun _ _ _ _ _ => (uv 4))) ip_catL)))
      (pss_one (ps_ret (uv 1))))), ?_⟩
  obtain ⟨a, xs, rfl, ha, rs⟩ := rv.tupI
  have lx : xs.length = wd.length := by rw [rs.len, List.length_map]
  walk_at "go"
  refine g_new fun l hl0 => ?_
  walk_at "go"
  refine g_seqTs ?_
  walk_at "go"
  refine ⟨_, rfl, ⟨xs, sqT (Ex.new hl0 _ _ ha)⟩, ?_⟩
  refine for_it walk_tup (fun i σ H1 => (∃ o2 o3 o4 o5, σ = [some (.ref a), some (.ref l), o2, o3, o4, o5]) ∧ Ex H H1 ∧ H1 l = some (.lst ((mkNames (wd.take i)).map V.str))) ⟨⟨none, none, none, none, rfl⟩, Ex.new hl0, upd_same⟩ (fun i σ H1 _ h => sqT (h.2.1 _ _ ha)) ?_ ?_
  · rintro i x σ H1 H1' hi ⟨⟨o2, o3, o4, o5, rfl⟩, e1, hl1⟩ ⟨rfl, hx⟩
    obtain ⟨kd, b, c, ys, ek, rfl, hb, hc, ry⟩ := wood_at rs hx
    have ly : ys.length = kd.2.length := by rw [ry.len, List.length_map]
    have hk := hm kd (List.mem_of_getElem? ek)
    refine g_tup2 (e1 _ _ hb) ?_
    walk_at "go"
    refine g_augL rfl ?_
    walk_at "go"
    refine g_seqTs ?_
    walk_at "go"
    refine ⟨_, rfl, ⟨ys, sqT (e1 _ _ hc)⟩, fun D hD => ?_⟩
    refine lc_mapE walk_tup (fun j _ v => ∃ m, kd.2[j]? = some m ∧ v = .str m.1) (by omega) hD (fun _ _ _ _ _ r => r) (fun H2 e => sqT (e _ _ (e1 _ _ hc))) ?_ ?_
    · rintro j y H2 H3 P N hj e ⟨rfl, hy⟩ k
      obtain ⟨m, b2, c2, em, rfl, hb2, _⟩ := mk_at ry hy
      refine g_tup2 (e _ _ (e1 _ _ hb2)) ?_
      walk_at "go"
      refine ⟨rfl, ?_⟩
      walk_at "go"
      exact k _ _ (Ex.refl _) ⟨m, em, rfl⟩
    · intro H2 acc e2 hacc hla hr2
      have ea : acc = (kd.2.map Prod.fst).map V.str := by
        refine List.ext_getElem? fun j => ?_
        cases h : acc[j]? with
        | none =>
          have := List.getElem?_eq_none_iff.1 h
          symm
          rw [List.getElem?_eq_none_iff, List.length_map, List.length_map]
          omega
        | some v =>
          obtain ⟨m, em, rfl⟩ := hr2 j v h
          rw [List.getElem?_map, List.getElem?_map, em]
          rfl
      subst ea
      have en : mkNames (wd.take (i + 1)) = mkNames (wd.take i) ++ kd.2.map Prod.fst := by
        unfold mkNames
        rw [List.take_add_one, ek, List.map_append, List.flatten_append]
        simp
      have le : (mkNames (wd.take (i + 1))).length ≤ (mkNames wd).length := by
        have : mkNames wd = mkNames (wd.take (i + 1)) ++ mkNames (wd.drop (i + 1)) := by
          unfold mkNames
          rw [← List.flatten_append, ← List.map_append, List.take_append_drop]
        rw [this, List.length_append]
        omega
      rw [en, List.length_append, List.length_map] at le
      refine g_iadd (e2 _ _ hl1) hacc (by rw [List.length_map, List.length_map, List.length_map]; omega) ?_
      walk_at "go"
      refine ⟨⟨_, _, _, _, rfl⟩, (e1.trans e2).at_new hl0, ?_⟩
      rw [upd_same, en, List.map_append]
  · rintro σ H1 ⟨⟨o2, o3, o4, o5, rfl⟩, e1, hl1⟩
    rw [lx, List.take_length] at hl1
    walk_at "go"
    exact q _ _ hl0 e1 hl1

theorem ok_law_box (T : Txt K mg) : FnOk P w K mg base (L2.CX P w) 1 T.a_law_box T.d_law_box ["_law_script", "_law_k"] (spBox K) := by
  refine T.F_law_box.okX sc_law_box (fun vs H Q E h => ?_) (fun cdv A outer s H vs Q E hr h => ?_)
  · obtain ⟨p, ns, k, rfl, _⟩ := h
    rfl
  obtain ⟨p, ns, k, rfl, hS, hl, q⟩ := h
  refine ⟨_, (pss_cons (ps_set (i := 2) sc_law_box.nd rfl (by first | exact Or.inl rfl | exact Or.inr rfl) (pe_op uo_add (pe_op uo_mul pe_int (uv 1)) pe_int))
      (C8.pss_cut (ps_if (pt_cmpR uo_lt (uv 1) (pe_callB uk_len rfl T.z_len boot_len (pa_cons (uv 0) pa_nil)) (nomark _)) (pss_one (ps_set (i := 2) sc_law_box.nd rfl (by first | exact Or.inl rfl | exact Or.inr rfl) (pe_ix ux_seq (uv 0) (uv 1) (fun _ _ => rfl)))) (pss_one (ps_if (pt_cmpR uo_gt (pe_callB uk_len rfl T.z_len boot_len (pa_cons (uv 0) pa_nil)) pe_int (nomark _)) (pss_one (ps_set (i := 2) sc_law_box.nd rfl (by first | exact Or.inl rfl | exact Or.inr rfl) (pe_op uo_add (uv 2) (pe_op uo_mul (pe_op uo_mod (pe_ix ux_seq (uv 0) (pe_op uo_mod (uv 1) (pe_callB uk_len rfl T.z_len boot_len (pa_cons (uv 0) pa_nil))) (fun _ _ => rfl)) pe_int) pe_int)))) pss_nil)))
      (pss_cons (ps_set (i := 3) sc_law_box.nd rfl (by first | exact Or.inl rfl | exact Or.inr rfl) (pe_op uo_add (pe_op uo_mod (pe_op uo_add (pe_op uo_mul (pe_op uo_mod (uv 2) pe_int) pe_int) (pe_op uo_mul pe_int (uv 1))) pe_int) pe_int))
      (pss_one (ps_ret (pe_lst (pa_cons (pe_ix ux_seq (pe_lst (pa_cons pe_int (pa_cons (uv 2) pa_nil))) (pe_callTy uk_int rfl T.z_int boot_int (pa_cons (pe_cmpR uo_ge (uv 2) (pe_op uo_pow pe_int pe_int) (nomark _)) pa_nil)) (fun _ _ => rfl)) (pa_cons (uv 3) (pa_cons pe_int pa_nil))))))))), ?_⟩
  walk_at "go"
  refine ⟨fun σ' H' => (∃ x : Int, σ' = [some (V.ref p), some (V.int k), some (V.int x), none]) ∧ H' = H, ?_, ?_⟩
  · walk_at "go"
    refine i_d (fun c => ?_) fun c => ?_
    · walk_at "go"
      have c' : k < ns.length := by
        rw [List.length_map] at c
        omega
      refine g_ixSq hS (at_ints c') ?_
      walk_at "go"
      exact ⟨⟨_, rfl⟩, rfl⟩
    · walk_at "go"
      refine i_d (fun c => ?_) fun c => ?_
      · walk_at "go"
        have hn : (0 : Int) < ((ns.map V.int).length : Nat) := c
        have e : ((k : Int).fmod ((ns.map V.int).length : Nat)) = ((k % ns.length : Nat) : Int) := by
          rw [Int.fmod_eq_emod_of_nonneg _ (by omega), List.length_map]
          rfl
        have c' : k % ns.length < ns.length := Nat.mod_lt _ (by rw [List.length_map] at hn; omega)
        refine g_ixSq hS (by rw [e]; exact at_ints c') ?_
        walk_at "go"
        exact ⟨⟨_, rfl⟩, rfl⟩
      · walk_at "go"
        exact ⟨⟨_, rfl⟩, rfl⟩
  · rintro σ' H' ⟨⟨x, rfl⟩, rfl⟩
    walk_at "go"
    refine g_new fun a ha => ?_
    have h1 := @upd_same H' a (.lst [V.int 0, V.int x])
    walk_at "go"
    have fin : ∀ v : Int, atI [V.int 0, V.int x] (b2z (decide ((10 : Int) ^ Int.toNat 18 ≤ x))) = some (.int v) → _ := fun _ _ => True.intro
    have ev : ∃ v : Int, atI [V.int 0, V.int x] (b2z (decide ((10 : Int) ^ Int.toNat 18 ≤ x))) = some (.int v) := by
      by_cases c : (10 : Int) ^ Int.toNat 18 ≤ x
      · rw [decide_eq_true c]
        exact ⟨x, rfl⟩
      · rw [decide_eq_false c]
        exact ⟨0, rfl⟩
    obtain ⟨v, ev⟩ := ev
    refine g_ixL h1 ev ?_
    walk_at "go"
    refine g_new fun b hb => ?_
    have e1 : Ex H' (upd H' a (.lst [V.int 0, V.int x])) := Ex.new ha
    exact q _ _ (e1.free hb) (e1.trans (Ex.new hb)) ⟨_, _, _, upd_same⟩

theorem ok_law_take (T : Txt K mg) : FnOk P w K mg base (L2.CX P w) 1 T.a_law_take T.d_law_take ["_law_box_here", "_law_many"] spTake := by
  refine T.F_law_take.okX sc_law_take (fun vs H Q E h => ?_) (fun cdv A outer s H vs Q E hr h => ?_)
  · obtain ⟨p, m, rfl, _⟩ := h
    rfl
  obtain ⟨p, m, rfl, ⟨a, b, c, hp⟩, hm, hm2, q⟩ := h
  have hm0 : m ≠ 0 := by omega
  refine ⟨_, (pss_cons (ps_if (pt_cmpR uo_gt (pe_ix ux_seq (uv 0) pe_int (fun _ _ => rfl)) pe_int (nomark _)) (pss_cons (ps_set (i := 2) sc_law_take.nd rfl (by first | exact Or.inl rfl | exact Or.inr rfl) (pe_op uo_mod (pe_ix ux_seq (uv 0) pe_int (fun _ _ => rfl)) (uv 1)))
      (pss_cons (ps_asg (pe_op uo_fd (pe_ix ux_seq (uv 0) pe_int (fun _ _ => rfl)) (uv 1)) (pg_sub (uv 0) pe_int set_list))
      (pss_one (ps_ret (uv 2))))) pss_nil)
      (pss_cons (ps_asg (pe_op uo_add (pe_ix ux_seq (uv 0) pe_int (fun _ _ => rfl)) pe_int) (pg_sub (uv 0) pe_int set_list))
      (pss_cons (ps_set (i := 3) sc_law_take.nd rfl (by first | exact Or.inl rfl | exact Or.inr rfl) (pe_op uo_mod (pe_op uo_mul (pe_op uo_add (pe_ix ux_seq (uv 0) pe_int (fun _ _ => rfl)) (pe_op uo_mul pe_int (pe_ix ux_seq (uv 0) pe_int (fun _ _ => rfl)))) pe_int) pe_int))
      (pss_cons (ps_asg (pe_op uo_add (pe_op uo_mod (pe_op uo_add (pe_op uo_mul (uv 3) pe_int) pe_int) pe_int) pe_int) (pg_sub (uv 0) pe_int set_list))
      (pss_one (ps_ret (pe_op uo_mod (pe_op uo_fd (pe_op uo_add (pe_op uo_mul (uv 3) pe_int) (pe_ix ux_seq (uv 0) pe_int (fun _ _ => rfl))) pe_int) (uv 1)))))))), ?_⟩
  walk_at "go"
  refine i_d (fun c1 => ?_) fun c1 => ?_
  · walk_at "go"
    refine g_i ?_ ⟨hm0, hm2⟩
    walk_at "go"
    refine g_setL hp (by rfl) ?_
    walk_at "go"
    exact q _ _ (fmod_pos hm).1 (fmod_pos hm).2 (But.upd (But.refl _ _)) ⟨_, _, _, upd_same⟩
  · walk_at "go"
    refine g_setL hp (by rfl) ?_
    have h1 : upd H p (.lst ([V.int a, V.int b, V.int c].set 2 (.int (c + 1)))) p = some (.lst [.int a, .int b, .int (c + 1)]) := upd_same
    walk_at "go"
    refine g_setL h1 (by rfl) ?_
    have h2 := @upd_same (upd H p (.lst ([V.int a, V.int b, V.int c].set 2 (.int (c + 1))))) p (.lst ([V.int a, V.int b, V.int (c + 1)].set 1 (.int ((((b + 104729 * (c + 1)) * 69623).fmod 2147483647 * 48271 + 30103).fmod 2147483629 + 1))))
    walk_at "go"
    exact q _ _ (fmod_pos hm).1 (fmod_pos hm).2 ((But.refl _ _).upd.upd) ⟨_, _, _, h2⟩

theorem ok_law_makers (T : Txt K mg) : FnOk P w K mg base (L2.CX P w) 1 T.a_law_makers T.d_law_makers ["_law_wood_here"] spMakers := by
  refine T.F_law_makers.okX sc_law_makers (fun vs H Q E h => ?_) (fun cdv A outer s H vs Q E hr h => ?_)
  · obtain ⟨_, _, rfl, _⟩ := h
    rfl
  obtain ⟨wd, v, rfl, rv, ok, q⟩ := h
  refine ⟨_, (pss_cons (ps_set (i := 1) sc_law_makers.nd rfl (by first | exact Or.inl rfl | exact Or.inr rfl) (pe_lc (own := [("_law_name", 4), ("_law_makers_here", 5)]) (g := gTup K 2 (gCons (gName 4) (gCons (gName 5) gNil))) rfl sc_law_makers.nd (ui_seq (uv 0)) (blkOk_by (own := [("_law_name", 4), ("_law_makers_here", 5)]) (N := N_law_makers) (sc := defScope s_law_makers) (by decide +kernel)) (fun _ _ _ _ _ => (pg_tup rfl (pgs_cons (pg_name (i := 4) sc_law_makers.nd rfl (by first | exact Or.inl rfl | exact Or.inr rfl)) (pgs_cons (pg_name (i := 5) sc_law_makers.nd rfl (by first | exact Or.inl rfl | exact Or.inr rfl)) pgs_nil)))) (fun _ _ _ _ _ => pts_nil) (fun _ _ _ _ _ => (uv 4))))
      (pss_cons (ps_set (i := 2) sc_law_makers.nd rfl (by first | exact Or.inl rfl | exact Or.inr rfl) (pe_lst pa_nil))
      (pss_cons (ps_for (passes_of rfl) rfl (ui_enum rfl T.z_enumerate (pa_cons (uv 0) pa_nil)) (pg_tup rfl (pgs_cons (pg_name (i := 3) sc_law_makers.nd rfl (by first | exact Or.inl rfl | exact Or.inr rfl)) (pgs_cons (pg_tup rfl (pgs_cons (pg_name (i := 4) sc_law_makers.nd rfl (by first | exact Or.inl rfl | exact Or.inr rfl)) (pgs_cons (pg_name (i := 5) sc_law_makers.nd rfl (by first | exact Or.inl rfl | exact Or.inr rfl)) pgs_nil))) pgs_nil))) (pss_one (ps_expr (pe_bm PySem.F.plainAttrs_list PySem.F.slot_list_extend PySem.F.type_list_extend mt_extend (uv 2) (pa_cons (pe_lc (own := [("_law_maker", 6), ("_law_parts", 7)]) (g := gTup K 2 (gCons (gName 6) (gCons (gName 7) gNil))) rfl sc_law_makers.nd (ui_seq (uv 5)) (blkOk_by (own := [("_law_maker", 6), ("_law_parts", 7)]) (N := N_law_makers) (sc := defScope s_law_makers) (by decide +kernel)) (fun _ _ _ _ _ => (pg_tup rfl (pgs_cons (pg_name (i := 6) sc_law_makers.nd rfl (by first | exact Or.inl rfl | exact Or.inr rfl)) (pgs_cons (pg_name (i := 7) sc_law_makers.nd rfl (by first | exact Or.inl rfl | exact Or.inr rfl)) pgs_nil)))) (fun _ _ _ _ _ => pts_nil) (fun _ _ _ _ _ => (pe_tup (pa_cons (uv 6) (pa_cons (uv 3) (pa_cons (pe_callTy (show CallR _ (.type "tuple") (uTup K) from uk_tup) rfl T.z_tuple boot_tuple (pa_cons (pe_lc (own := [("_law_part", 8)]) (g := gName 8) rfl sc_law_makers.nd (show PI _ _ _ (uSeq K _) from (ui_seq (uv 7))) (blkOk_by (own := [("_law_part", 8)]) (by kernel_rfl)) (fun _ _ _ _ _ => (pg_name (i := 8) sc_law_makers.nd rfl (by first | exact Or.inl rfl | exact Or.inr rfl))) (fun _ _ _ _ _ => pts_nil) (fun _ _ _ _ _ => (show PE _ _ (tBM K "list" (rIndex K) _ _) from (pe_bm PySem.F.plainAttrs_list PySem.F.slot_list_index PySem.F.type_list_index mt_index (uv 1) (pa_cons (uv 8) pa_nil))))) pa_nil)) pa_nil)))))) pa_nil)))))
      (pss_one (ps_ret (uv 2)))))), ?_⟩
  obtain ⟨a, xs, rfl, ha, rs⟩ := id rv.tupI
  have lx : xs.length = wd.length := by rw [rs.len, List.length_map]
  have pk := ok.kinds
  have pm := ok.many
  walk_at "go"
  refine g_seqTs ?_
  walk_at "go"
  refine ⟨_, rfl, ⟨xs, sqT ha⟩, fun kl hkl => ?_⟩
  refine lc_mapE walk_tup (fun j _ v => ∃ s, v = V.str s ∧ (wd.map Prod.fst)[j]? = some s) (by omega) hkl (fun _ _ _ _ _ r => r) (fun H2 e => sqT (e _ _ ha)) ?_ ?_
  · rintro j y H2 H3 P N hj e ⟨rfl, hy⟩ k
    obtain ⟨kd, b, c, ys, ek, rfl, hb, hc, _⟩ := wood_at rs hy
    refine g_tup2 (e _ _ hb) ?_
    walk_at "go"
    refine ⟨rfl, ?_⟩
    walk_at "go"
    exact k _ _ (Ex.refl _) ⟨kd.1, rfl, by rw [List.getElem?_map, ek]; rfl⟩
  intro H1 acc e1 hacc hla hr2
  obtain ⟨ks, rfl, hks, hkp⟩ := acc_strs hla hr2
  have ek : ks = wd.map Prod.fst := by
    refine List.ext_getElem? fun j => ?_
    cases c : ks[j]? with
    | none =>
      have := List.getElem?_eq_none_iff.1 c
      symm
      rw [List.getElem?_eq_none_iff, List.length_map]
      omega
    | some s => rw [hkp j s c]
  subst ek
  walk_at "go"
  refine g_new fun l hl => ?_
  walk_at "go"
  have e2 := e1.trans (Ex.new (o := .lst []) hl)
  have hl0 := e1.free hl
  have nkl : kl ≠ l := fun z => by rw [z, hl] at hacc; cases hacc
  refine g_enT ?_
  walk_at "go"
  refine ⟨_, xs, rfl, sqT (e2 _ _ ha), ?_⟩
  refine for_it walk_enumT (fun i σ H2 => (∃ o3 o4 o5 o6 o7 o8, σ = [some (.ref a), some (.ref kl), some (.ref l), o3, o4, o5, o6, o7, o8]) ∧ Ex H1 H2 ∧ ∃ us, H2 l = some (.lst us) ∧ Dues wd H2 (tabFrom 0 (wd.take i)) us) ⟨⟨_, _, _, _, _, _, rfl⟩, Ex.new hl, [], upd_same, rfl, fun j v z => by simp at z⟩ (fun i σ H2 _ h => sqT ((e1.trans h.2.1) _ _ ha)) ?_ ?_
  · rintro i x σ H2 H2' hi ⟨⟨o3, o4, o5, o6, o7, o8, rfl⟩, e3, us, hus, hD⟩ ⟨t, y, z, rfl, ht, rfl, ey, ez⟩
    cases ey
    obtain ⟨kd, b, c, ys, ekd, rfl, hb, hc, ry⟩ := wood_at rs ez
    have ly : ys.length = kd.2.length := by rw [ry.len, List.length_map]
    have e4 := Ex.new (o := .tup [.int (i : Nat), .ref b]) ht
    refine g_tup2 upd_same ?_
    walk_at "go"
    have e33 := e3.trans e4
    have e13 := e1.trans e33
    refine g_tup2 (e13 _ _ hb) ?_
    walk_at "go"
    have us4 := e4 _ _ hus
    refine g_tyL us4 ?_
    walk_at "go"
    refine g_seqTs ?_
    walk_at "go"
    refine ⟨_, rfl, ⟨ys, sqT (e13 _ _ hc)⟩, fun D hDn => ?_⟩
    have hmk : ∀ m ∈ kd.2, _ := ok.mkr kd (List.mem_of_getElem? ekd)
    have sp := tab_split wd 0 i kd ekd
    rw [Nat.zero_add] at sp
    have nm2 := pm
    rw [sp, List.length_append, List.length_append, List.length_map] at nm2
    refine lc_mapE walk_tup (fun j H5 v => ∃ m, kd.2[j]? = some m ∧ DueAt wd H5 (i, m) v) (by omega) hDn (fun j H H' v t r => r.elim fun m z => ⟨m, z.1, z.2.tk t⟩) (fun H5 e => sqT (e _ _ (e13 _ _ hc))) ?_ ?_
    · rintro j y H5 H6 P N hj e5 ⟨rfl, hy⟩ k
      obtain ⟨m, b2, c2, em, rfl, hb2, hc2⟩ := mk_at ry hy
      have e15 := e13.trans e5
      have hm := hmk m (List.mem_of_getElem? em)
      refine g_tup2 (e15 _ _ hb2) ?_
      walk_at "go"
      refine ⟨rfl, ?_⟩
      walk_at "go"
      refine g_seqTs ?_
      walk_at "go"
      refine ⟨_, rfl, ⟨_, sqT (e15 _ _ hc2)⟩, fun D2 hD2 => ?_⟩
      refine lc_mapE walk_tup (fun u _ v => ∃ s, m.2[u]? = some s ∧ v = .int (kno wd s)) (by rw [List.length_map]; omega) hD2 (fun _ _ _ _ _ r => r) (fun H7 e => sqT (e _ _ (e15 _ _ hc2))) ?_ ?_
      · rintro u y H7 H8 P2 N2 hu e7 ⟨rfl, hy2⟩ k2
        rw [List.getElem?_map] at hy2
        cases es : m.2[u]? with
        | none => rw [es] at hy2; cases hy2
        | some s =>
          rw [es] at hy2
          cases hy2
          walk_at "go"
          refine ⟨rfl, ?_⟩
          walk_at "go"
          have kl7 := (e33.trans (e5.trans e7)) _ _ hacc
          refine g_tyL kl7 ?_
          walk_at "go"
          refine g_lidx ok.knd kl7 (hm.2.2 s (List.mem_of_getElem? es)) ?_
          exact k2 _ _ (Ex.refl _) ⟨s, es, rfl⟩
      · intro H7 acc2 e7 hacc2 hla2 hr3
        have ea : acc2 = m.2.map fun s => V.int (kno wd s) := by
          refine List.ext_getElem? fun u => ?_
          cases h : acc2[u]? with
          | none =>
            have := List.getElem?_eq_none_iff.1 h
            symm
            rw [List.getElem?_eq_none_iff, List.length_map]
            rw [List.length_map] at hla2
            omega
          | some v =>
            obtain ⟨s, es, rfl⟩ := hr3 u v h
            rw [List.getElem?_map, es]
            rfl
        subst ea
        walk_at "go"
        refine g_tupOf hacc2 fun t2 ht2 => ?_
        walk_at "go"
        refine g_new fun t3 ht3 => ?_
        exact k _ _ (e7.trans ((Ex.new ht2).trans (Ex.new ht3))) ⟨m, em, t3, t2, rfl, upd_same, Ex.new ht3 _ _ upd_same⟩
    · intro H5 acc2 e5 hacc2 hla2 hr3
      have dd : Dues wd H5 (kd.2.map fun m => (i, m)) acc2 := ⟨by rw [List.length_map]; omega, fun j v hj => by
        obtain ⟨m, em, hd⟩ := hr3 j v hj
        exact ⟨(i, m), by rw [List.getElem?_map, em]; rfl, hd⟩⟩
      have us5 := e5 _ _ us4
      have lu := hD.1
      walk_at "go"
      refine g_ext us5 hacc2 (by omega) ?_
      have b6 : Tk H5 (upd H5 l (.lst (us ++ acc2))) := ((But.refl l H5).upd).tkl us5
      have fin := (((hD.tk (e4.tk.trans e5.tk)).app dd).tk b6)
      have tt := tab_take wd 0 i kd ekd
      rw [Nat.zero_add] at tt
      walk_at "go"
      exact ⟨⟨_, _, _, _, _, _, rfl⟩, (e33.trans e5).at_new hl, _, upd_same, by rw [tt]; exact fin⟩
  · rintro σ H2 ⟨⟨o3, o4, o5, o6, o7, o8, rfl⟩, e3, us, hus, hD⟩
    rw [lx, List.take_length] at hD
    walk_at "go"
    exact q _ _ us (e1.trans e3) hus hD

theorem ok_law_is_name (T : Txt K mg) : FnOk P w K mg base (L2.CX P w) 1 T.a_law_is_name T.d_law_is_name ["_law_text"] spIsNameL := by
  refine T.F_law_is_name.okX sc_law_is_name (fun vs H Q E h => ?_) (fun cdv A outer s H vs Q E hr h => ?_)
  · obtain ⟨_, rfl, _⟩ := h
    rfl
  obtain ⟨z, rfl, hz, q⟩ := h
  refine ⟨_, (pss_cons (ps_if (PW.pt (pw_or (pt_cmpR op_eq (uv 0) pe_str (nomark _)) (pw_or1 (pt_not (pt_chain uo_lt uo_lt pe_int (pe_callB uk_len rfl T.z_len boot_len (pa_cons (uv 0) pa_nil)) pe_int))))) (pss_one (ps_ret pe_bl)) pss_nil)
      (pss_one (ps_ret (pe_cmpR (op_eqD hr.units) (pe_lc (own := [("_law_sign", 1)]) (g := gName 1) rfl sc_law_is_name.nd (ui_seq (uv 0)) (blkOk_by (own := [("_law_sign", 1)]) (N := N_law_is_name) (sc := defScope s_law_is_name) (by decide +kernel)) (fun _ _ _ _ _ => (pg_name (i := 1) sc_law_is_name.nd rfl (by first | exact Or.inl rfl | exact Or.inr rfl))) (fun _ _ _ _ _ => (pts_one (pt_cmpR (show OpR _ (compareOp .NotIn) (uIn K true) from uo_notIn) (uv 1) pe_str rfl))) (fun _ _ _ _ _ => (uv 1))) (pe_lst pa_nil) (nomark _))))), ?_⟩
  have hz2 : z.length ≤ 1000000 := Nat.le_trans hz.1 (by decide)
  have fin : ∀ b, b = isName z → ∀ H', Ex H H' → Q (.bl b) H' := fun b e H' x => e ▸ q H' x
  walk_at "go"
  refine i_eqS (fun c => ?_) fun c => ?_
  · walk_at "go"
    exact fin _ (by subst c; decide) _ (Ex.refl _)
  · walk_at "go"
    refine g_lenStr hz2 ?_
    walk_at "go"
    refine i_d (fun c1 => ?_) fun c1 => ?_
    · walk_at "go"
      refine i_n (fun c2 => ?_) fun c2 => ?_
      · walk_at "go"
        exact fin _ (isName_no (by omega)).symm _ (Ex.refl _)
      · walk_at "go"
        refine g_seqSs ?_
        walk_at "go"
        refine ⟨_, rfl, fun D hD => ?_⟩
        refine lc_it walk_str (fun i H2 => Ex H H2 ∧ H2 D = some (.lst ((((z.cps.toList.take i).filter fun c => !decide (c ∈ lettersS.cps.toList)).map one).map V.str))) ⟨Ex.new hD, upd_same⟩ (fun _ _ _ _ => trivial) ?_ ?_
        · rintro i x H2 H3 hi ⟨e, hd⟩ ⟨rfl, c, hc, rfl⟩
          have hc' : z.cps.toList[i]? = some c := by simpa using hc
          have lle : ((((z.cps.toList.take i).filter fun c => !decide (c ∈ lettersS.cps.toList)).map one).map V.str).length < sizeLine := by
            rw [List.length_map, List.length_map]
            have a := List.length_filter_le (fun c => !decide (c ∈ lettersS.cps.toList)) (z.cps.toList.take i)
            rw [List.length_take] at a
            have b := str_len z
            exact Nat.lt_of_le_of_lt (by omega : _ ≤ 1000000) (by decide)
          walk_at "go"
          refine ⟨rfl, ?_⟩
          walk_at "go"
          refine g_inSn rfl ?_
          walk_at "go"
          refine i_n (fun k => ?_) fun k => ?_
          · walk_at "go"
            refine ⟨_, hd, lle, e.at_new hD, ?_⟩
            have k' : decide (c ∈ lettersS.cps.toList) = false := decide_eq_false k
            rw [upd_same, List.take_add_one, hc', List.filter_append, List.map_append, List.map_append]
            simp only [Option.toList, List.filter, k', Bool.not_false]
            rfl
          · refine ⟨e, ?_⟩
            have k' : decide (c ∈ lettersS.cps.toList) = true := decide_eq_true k
            rw [hd, List.take_add_one, hc', List.filter_append]
            simp only [Option.toList, List.filter, k', Bool.not_true, List.append_nil]
        · rintro H2 ⟨e2, hd⟩
          walk_at "go"
          refine g_new fun e0 he0 => ?_
          rw [show z.cps.size = z.cps.toList.length by simp, List.take_length] at hd
          refine g_eqSs (ts := []) (Ex.new he0 _ _ hd) upd_same (fun s hs c hc => ?_) (fun s hs => nomatch hs) ?_
          · obtain ⟨d, hd2, rfl⟩ := List.mem_map.1 hs
            have : c = d := by simpa [one] using hc
            rw [this]
            exact hz.2 d (List.mem_filter.1 hd2).1
          refine fin _ ?_ _ (e2.trans (Ex.new he0))
          rw [isName_yes c ⟨by omega, by omega⟩, Bool.eq_iff_iff, decide_eq_true_iff, List.map_eq_nil_iff, List.filter_eq_nil_iff, List.all_eq_true]
          simp
    · walk_at "go"
      exact fin _ (isName_no (by omega)).symm _ (Ex.refl _)

theorem ok_law_alike (T : Txt K mg) : FnOk P w K mg base (L2.CX P w) 1 T.a_law_alike T.d_law_alike ["_law_found", "_law_due"] spAlikeT := by
  refine T.F_law_alike.okX sc_law_alike (fun vs H Q E h => ?_) (fun cdv A outer s H vs Q E hr h => ?_)
  · obtain ⟨_, _, _, rfl, _⟩ := h
    rfl
  obtain ⟨dd, v0, w0, rfl, rv, rw', hdh, hsz, q⟩ := h
  refine ⟨_, (pss_cons (ps_set (i := 2) sc_law_alike.nd rfl (by first | exact Or.inl rfl | exact Or.inr rfl) (pe_lst (pa_cons (pe_tup (pa_cons (uv 0) (pa_cons (uv 1) pa_nil))) pa_nil)))
      (pss_cons (ps_while (passes_of rfl) (pt_cmpR uo_gt (pe_callB uk_len rfl T.z_len boot_len (pa_cons (uv 2) pa_nil)) pe_int (nomark _)) (pss_cons (ps_asg (pe_bm0 PySem.F.plainAttrs_list PySem.F.slot_list_pop PySem.F.type_list_pop mt_pop (uv 2)) (pg_tup rfl (pgs_cons (pg_name (i := 3) sc_law_alike.nd rfl (by first | exact Or.inl rfl | exact Or.inr rfl)) (pgs_cons (pg_name (i := 4) sc_law_alike.nd rfl (by first | exact Or.inl rfl | exact Or.inr rfl)) pgs_nil))))
      (pss_one (ps_if (ut (pe_callB uk_is rfl T.z_isinstance boot_isinstance (pa_cons (uv 4) (pa_cons (pe_bltn (v := .ty "tuple") rfl T.z_tuple boot_tuple rfl) pa_nil)))) (pss_cons (ps_if (PW.pt (pw_or (pt_not (ut (pe_callB uk_is rfl T.z_isinstance boot_isinstance (pa_cons (uv 3) (pa_cons (pe_bltn (v := .ty "tuple") rfl T.z_tuple boot_tuple rfl) pa_nil))))) (pw_or1 (pt_cmpR op_ne (pe_callB uk_len rfl T.z_len boot_len (pa_cons (uv 3) pa_nil)) (pe_callB uk_len rfl T.z_len boot_len (pa_cons (uv 4) pa_nil)) (nomark _))))) (pss_one (ps_ret pe_bl)) pss_nil)
      (pss_one (ps_expr (pe_bm PySem.F.plainAttrs_list PySem.F.slot_list_extend PySem.F.type_list_extend mt_extend (uv 2) (pa_cons (pe_listZip rfl rfl T.z_list rfl T.z_zip (pa_cons (uv 3) (pa_cons (uv 4) pa_nil))) pa_nil))))) (pss_one (ps_if (PW.pt (pw_or (ut (pe_callB uk_is rfl T.z_isinstance boot_isinstance (pa_cons (uv 3) (pa_cons (pe_bltn (v := .ty "tuple") rfl T.z_tuple boot_tuple rfl) pa_nil)))) (pw_or1 (pt_cmpR op_ne (pe_callB uk_is rfl T.z_isinstance boot_isinstance (pa_cons (uv 3) (pa_cons (pe_bltn (v := .ty "bool") rfl T.z_bool boot_bool rfl) pa_nil))) (pe_callB uk_is rfl T.z_isinstance boot_isinstance (pa_cons (uv 4) (pa_cons (pe_bltn (v := .ty "bool") rfl T.z_bool boot_bool rfl) pa_nil))) (nomark _))))) (pss_one (ps_ret pe_bl)) (pss_one (ps_if (PW.pt (pw_or (pt_cmpR op_ne (pe_callB uk_is rfl T.z_isinstance boot_isinstance (pa_cons (uv 3) (pa_cons (pe_bltn (v := .ty "int") rfl T.z_int boot_int rfl) pa_nil))) (pe_callB uk_is rfl T.z_isinstance boot_isinstance (pa_cons (uv 4) (pa_cons (pe_bltn (v := .ty "int") rfl T.z_int boot_int rfl) pa_nil))) (nomark _)) (pw_or1 (pt_cmpR op_ne (uv 3) (uv 4) (nomark _))))) (pss_one (ps_ret pe_bl)) pss_nil))))))))
      (pss_one (ps_ret pe_bl)))), ?_⟩
  walk_at "go"
  refine g_new fun a ha => ?_
  walk_at "go"
  refine g_new fun l hl => ?_
  walk_at "go"
  have e0 : Ex H (upd H a (.tup [v0, w0])) := Ex.new ha
  have hl0 : H l = none := e0.free hl
  refine g_while (fun m σ H1 => ∃ o1 o2, σ = [some v0, some w0, some (.ref l), o1, o2] ∧ m ≤ 400000 ∧ Ex H H1 ∧ ∃ ts, H1 l = some (.lst ts) ∧ PrH H H1 m ts) _ ⟨none, none, rfl, by rw [← Nat.zero_add dd.size] at hsz; exact hsz, e0.trans (Ex.new hl), _, upd_same, PrH.snoc .nil ⟨a, v0, w0, rfl, Ex.new hl _ _ upd_same, rv, rw'⟩ hdh⟩ ?_
  rintro m σ H1 ⟨o1, o2, rfl, hm, e, ts, hts, hp⟩
  walk_at "go"
  refine i_d (fun c => g_wn ?_) fun c => ?_
  · cases hp with
    | nil => cases c
    | @snoc n ts d t hp r kh =>
      obtain ⟨a, x, y, rfl, ha, rx, ry⟩ := r
      walk_at "go"
      refine g_pop hts ?_
      have b2 : But l H1 (upd H1 l (.lst ts)) := (But.refl _ _).upd
      have h2 := b2.get hts ha (fun z => nomatch z)
      have e2 : Ex H (upd H1 l (.lst ts)) := e.at_new hl0
      have t2 : Tk H1 (upd H1 l (.lst ts)) := b2.tkl hts
      have l2 : upd H1 l (.lst ts) l = some (.lst ts) := upd_same
      refine g_tup2 h2 ?_
      walk_at "go"
      have szp := d.size_pos
      revert l2 e2 t2
      clear h2 b2
      generalize upd H1 l (.lst ts) = H2
      intro e2 t2 l2
      refine g_isD (ry.ex e2) (kit_tup d) ?_
      walk_at "go"
      refine i_b (fun k => ?_) fun k => ?_
      · obtain ⟨a1, b1, ds, xs, ys, rfl, rfl, rxs, rys, es, hds, ha1, hb1⟩ := D.openT k kh rx ry
        have a3 := e2 _ _ ha1
        have b3 := e2 _ _ hb1
        walk_at "go"
        refine g_isD (rx.ex e2) (kit_tup d) ?_
        rw [k]
        walk_at "go"
        refine i_neI (fun c => absurd (congrArg Int.ofNat (rxs.len2 rys)) c) fun _ => ?_
        walk_at "go"
        refine ⟨a1, b1, xs, ys, rfl, rxs.len2 rys, .inl ⟨sqT a3, sqT b3⟩, fun H4 z t4 e4 hz _ _ hz4 pz => ?_⟩
        have l4 := e4 _ _ l2
        have ln := sizes_len ds
        have ln2 := rxs.len
        have lp := hp.len
        walk_at "go"
        refine g_ext l4 hz4 (by rw [prz_len pz]; omega) ?_
        have b5 : But l H4 (upd H4 l (.lst (ts ++ t4.map V.ref))) := (But.refl _ _).upd
        have z := (PrH.ext rxs rys hds pz (hp.tk (t2.trans e4.tk))).tk (b5.tkl l4)
        walk_at "go"
        exact ⟨_, by omega, _, _, rfl, by omega, (e2.trans e4).at_new hl0, _, upd_same, z⟩
      · walk_at "go"
        refine g_isD (rx.ex e2) (kit_tup d) ?_
        rw [k]
        walk_at "go"
        refine g_isD (rx.ex e2) (kit_bl d) ?_
        walk_at "go"
        refine g_isD (ry.ex e2) (kit_bl d) ?_
        walk_at "go"
        refine g_isD (rx.ex e2) (kit_int d) ?_
        walk_at "go"
        refine g_isD (ry.ex e2) (kit_int d) ?_
        walk_at "go"
        refine g_neD rx ry (hard_flat kh k) ?_
        walk_at "go"
        exact ⟨_, by omega, _, _, rfl, by omega, e2, _, l2, hp.tk t2⟩
  · walk_at "go"
    exact q _ e

theorem ok_maker_table (T : Txt K mg) : FnOk P w K mg base (L2.CX P w) 2 T.a_maker_table T.d_maker_table ["wood"] spTable := by
  refine T.F_maker_table.okX sc_maker_table (fun vs H Q E h => ?_) (fun cdv A outer s H vs Q E hr h => ?_)
  · obtain ⟨_, _, rfl, _⟩ := h
    rfl
  obtain ⟨wd, v, rfl, rv, pre, q⟩ := h
  refine ⟨_, (pss_cons (ps_set (i := 1) sc_maker_table.nd rfl (by first | exact Or.inl rfl | exact Or.inr rfl) (pe_callD (ok_kinds_by_name T) (hr.mono (by decide)) rfl T.m_kinds_by_name T.F_kinds_by_name.kp T.b_kinds_by_name .nil (fun σ => passAt (takes_of rfl rfl rfl rfl) σ) (pa_cons (uv 0) pa_nil)))
      (pss_cons (ps_set (i := 2) sc_maker_table.nd rfl (by first | exact Or.inl rfl | exact Or.inr rfl) pe_dnewK)
      (pss_cons (ps_for (passes_of rfl) rfl (ui_enum rfl T.z_enumerate (pa_cons (uv 0) pa_nil)) (pg_tup rfl (pgs_cons (pg_name (i := 3) sc_maker_table.nd rfl (by first | exact Or.inl rfl | exact Or.inr rfl)) (pgs_cons (pg_tup rfl (pgs_cons (pg_name (i := 4) sc_maker_table.nd rfl (by first | exact Or.inl rfl | exact Or.inr rfl)) (pgs_cons (pg_name (i := 5) sc_maker_table.nd rfl (by first | exact Or.inl rfl | exact Or.inr rfl)) pgs_nil))) pgs_nil))) (pss_one (ps_for (passes_of rfl) rfl (ui_seq (uv 5)) (pg_tup rfl (pgs_cons (pg_name (i := 6) sc_maker_table.nd rfl (by first | exact Or.inl rfl | exact Or.inr rfl)) (pgs_cons (pg_name (i := 7) sc_maker_table.nd rfl (by first | exact Or.inl rfl | exact Or.inr rfl)) pgs_nil))) (pss_one (ps_dput (hu_of hr) (uv 2) (uv 6) (pe_tup (pa_cons (uv 3) (pa_cons (pe_callTy uk_tup rfl T.z_tuple boot_tuple (pa_cons (pe_lc (own := [("part", 8)]) (g := gName 8) rfl sc_maker_table.nd (ui_seq (uv 7)) (blkOk_by (own := [("part", 8)]) (N := N_maker_table) (sc := defScope s_maker_table) (by decide +kernel)) (fun _ _ _ _ _ => (pg_name (i := 8) sc_maker_table.nd rfl (by first | exact Or.inl rfl | exact Or.inr rfl))) (fun _ _ _ _ _ => pts_nil) (fun _ _ _ _ _ => (pe_dget (hu_of hr) (uv 1) (uv 8) (fun _ _ => rfl)))) pa_nil)) pa_nil))) rfl)))))
      (pss_one (ps_ret (uv 2)))))), ?_⟩
  obtain ⟨a, xs, rfl, ha, rs⟩ := id rv.tupI
  have lx : xs.length = wd.length := by rw [rs.len, List.length_map]
  have pw := pre.wide
  have pm := pre.many
  walk_at "go"
  refine ⟨wd, _, rfl, rv, pre.wide, fun dk H1 _ e1 hk => ?_⟩
  walk_at "go"
  refine fun d hd => ?_
  have e2 := e1.trans (Ex.new (o := .dK []) hd)
  have k2 := Ex.new (o := .dK []) hd _ _ hk
  have nkd : dk ≠ d := fun z => by rw [z, hd] at hk; cases hk
  walk_at "go"
  refine g_enT ?_
  walk_at "go"
  refine ⟨_, xs, rfl, sqT (e2 _ _ ha), ?_⟩
  refine for_it walk_enumT (fun i σ H2 => (∃ o3 o4 o5 o6 o7 o8, σ = [some (.ref a), some (.ref dk), some (.ref d), o3, o4, o5, o6, o7, o8]) ∧ Ex H1 H2 ∧ ∃ kvs, H2 d = some (.dK kvs) ∧ TabOk wd H2 kvs (tabFrom 0 (wd.take i))) ⟨⟨none, none, none, none, none, none, rfl⟩, Ex.new hd, [], upd_same, Nat.le_refl _, fun e z => by cases z⟩ (fun i σ H2 _ h => sqT ((e1.trans h.2.1) _ _ ha)) ?_ ?_
  · rintro i x σ H2 H2' hi ⟨⟨o3, o4, o5, o6, o7, o8, rfl⟩, e3, kvs, hkv, hT⟩ ⟨t, y, z, rfl, ht, rfl, ey, ez⟩
    cases ey
    obtain ⟨kd, b, c, ys, ek, rfl, hb, hc, ry⟩ := wood_at rs ez
    have ly : ys.length = kd.2.length := by rw [ry.len, List.length_map]
    have e4 := Ex.new (o := .tup [.int (i : Nat), .ref b]) ht
    refine g_tup2 upd_same ?_
    walk_at "go"
    have e13 := e1.trans (e3.trans e4)
    have e33 := e3.trans e4
    refine g_tup2 (e13 _ _ hb) ?_
    walk_at "go"
    refine g_seqTs ?_
    walk_at "go"
    refine ⟨_, rfl, ⟨ys, sqT (e13 _ _ hc)⟩, ?_⟩
    have sp := tab_split wd 0 i kd ek
    rw [Nat.zero_add] at sp
    have ndd := pre.nd
    rw [sp] at ndd
    have nm2 := pm
    rw [sp, List.length_append, List.length_append, List.length_map] at nm2
    refine for_it walk_tup (fun j σ H3 => (∃ o6 o7 o8, σ = [some (.ref a), some (.ref dk), some (.ref d), some (.int (i : Nat)), some (.str kd.1), some (.ref c), o6, o7, o8]) ∧ Ex H1 H3 ∧ ∃ kvs, H3 d = some (.dK kvs) ∧ TabOk wd H3 kvs (tabFrom 0 (wd.take i) ++ (kd.2.take j).map fun m => (i, m))) ⟨⟨_, _, _, rfl⟩, e33, kvs, e4 _ _ hkv, by rw [List.take_zero, List.map_nil, List.append_nil]; exact hT.tk e4.tk⟩ (fun j σ H3 _ h => sqT ((e1.trans h.2.1) _ _ hc)) ?_ ?_
    · rintro j x σ H3 H3' hj ⟨⟨o6, o7, o8, rfl⟩, e5, kvs, hkv, hT⟩ ⟨rfl, hx⟩
      obtain ⟨m, b2, c2, em, rfl, hb2, hc2⟩ := mk_at ry hx
      have e15 := e1.trans e5
      refine g_tup2 (e15 _ _ hb2) ?_
      walk_at "go"
      refine g_seqTs ?_
      walk_at "go"
      have hm := pre.parts kd (List.mem_of_getElem? ek) m (List.mem_of_getElem? em)
      refine ⟨_, rfl, ⟨_, sqT (e15 _ _ hc2)⟩, fun D hD => ?_⟩
      refine lc_mapE walk_tup (fun u _ v => ∃ s, m.2[u]? = some s ∧ v = .int (kno wd s)) (by rw [List.length_map]; omega) hD (fun _ _ _ _ _ r => r) (fun H4 e => sqT (e _ _ (e15 _ _ hc2))) ?_ ?_
      · rintro u y H4 H5 P N hu e ⟨rfl, hy⟩ k
        rw [List.getElem?_map] at hy
        cases es : m.2[u]? with
        | none => rw [es] at hy; cases hy
        | some s =>
          rw [es] at hy
          cases hy
          walk_at "go"
          refine ⟨rfl, ?_⟩
          walk_at "go"
          refine g_dgS (e _ _ (e5 _ _ hk)) (kno_get (hm.1 s (List.mem_of_getElem? es))) ?_
          exact k _ _ (Ex.refl _) ⟨s, es, rfl⟩
      · intro H4 acc e6 hacc hla hr2
        have ea : acc = m.2.map fun s => V.int (kno wd s) := by
          refine List.ext_getElem? fun u => ?_
          cases h : acc[u]? with
          | none =>
            have := List.getElem?_eq_none_iff.1 h
            symm
            rw [List.getElem?_eq_none_iff, List.length_map]
            rw [List.length_map] at hla
            omega
          | some v =>
            obtain ⟨s, es, rfl⟩ := hr2 u v h
            rw [List.getElem?_map, es]
            rfl
        subst ea
        walk_at "go"
        refine g_tupOf hacc fun t2 ht2 => ?_
        walk_at "go"
        refine g_new fun t3 ht3 => ?_
        walk_at "go"
        have e7 := (Ex.new (o := .tup (m.2.map fun s => V.int (kno wd s))) ht2).trans (Ex.new (o := .tup [.int (i : Nat), .ref t2]) ht3)
        have a3 := @upd_same (upd H4 t2 (.tup (m.2.map fun s => V.int (kno wd s)))) t3 (.tup [.int (i : Nat), .ref t2])
        have a2 := Ex.new (o := .tup [.int (i : Nat), .ref t2]) ht3 _ _ (@upd_same H4 t2 (.tup (m.2.map fun s => V.int (kno wd s))))
        revert e7 a3 a2
        generalize upd (upd H4 t2 (.tup (m.2.map fun s => V.int (kno wd s)))) t3 (.tup [.int (i : Nat), .ref t2]) = H6
        intro e7 a3 a2
        have hd6 := e7 _ _ (e6 _ _ hkv)
        have hjl : j < kd.2.length := by omega
        have lT := hT.1
        rw [List.length_append, List.length_map, List.length_take] at lT
        refine g_dpS hd6 (by omega) ?_
        have tk : Tk H6 (upd H6 d (.dK (putK kvs (.inr m.1) (.ref t3)))) := ((But.refl d H6).upd).tk hd6 fun _ z => nomatch z
        have hnew : (i, m).2.1 ∉ (tabFrom 0 (wd.take i) ++ (kd.2.take j).map fun m => (i, m)).map fun e => e.2.1 := by
          intro z
          have e8 : kd.2 = kd.2.take j ++ m :: kd.2.drop (j + 1) := by
            have := List.getElem?_eq_some_iff.1 em
            obtain ⟨h1, h2⟩ := this
            rw [← h2, List.getElem_cons_drop, List.take_append_drop]
          rw [e8] at ndd
          simp only [List.map_append, List.map_cons, List.map_map] at ndd z
          have n1 := (List.nodup_append.1 ndd).1
          rw [← List.append_assoc] at n1
          exact (List.nodup_append.1 n1).2.2 _ z _ List.mem_cons_self rfl
        have fin := ((hT.tk (e6.trans e7).tk).put (e := (i, m)) hnew a3 a2).tk tk
        have ej : tabFrom 0 (wd.take i) ++ (kd.2.take j).map (fun m => (i, m)) ++ [(i, m)] = tabFrom 0 (wd.take i) ++ (kd.2.take (j + 1)).map fun m => (i, m) := by
          rw [List.take_add_one, em, List.map_append, List.append_assoc]
          rfl
        rw [ej] at fin
        exact ⟨⟨_, _, _, rfl⟩, (e5.trans (e6.trans e7)).at_new hd, _, upd_same, fin⟩
    · rintro σ H3 ⟨⟨o6, o7, o8, rfl⟩, e5, kvs, hkv, hT⟩
      rw [ly, List.take_length] at hT
      have tt := tab_take wd 0 i kd ek
      rw [Nat.zero_add] at tt
      exact ⟨⟨_, _, _, _, _, _, rfl⟩, e5, kvs, hkv, by rw [tt]; exact hT⟩
  · rintro σ H2 ⟨⟨o3, o4, o5, o6, o7, o8, rfl⟩, e3, kvs, hkv, hT⟩
    rw [lx, List.take_length] at hT
    walk_at "go"
    exact q _ _ _ (e1.trans e3) hkv hT

theorem ok_law_names (T : Txt K mg) : FnOk P w K mg base (L2.CX P w) 2 T.a_law_names T.d_law_names ["_law_box_here", "_law_many"] spNames := by
  refine T.F_law_names.okX sc_law_names (fun vs H Q E h => ?_) (fun cdv A outer s H vs Q E hr h => ?_)
  · obtain ⟨_, _, rfl, _⟩ := h
    rfl
  obtain ⟨p, many, rfl, hb, hmany, q⟩ := h
  refine ⟨_, (pss_cons (ps_set (i := 2) sc_law_names.nd rfl (by first | exact Or.inl rfl | exact Or.inr rfl) pe_str)
      (pss_cons (ps_set (i := 3) sc_law_names.nd rfl (by first | exact Or.inl rfl | exact Or.inr rfl) (pe_join pe_str (pe_lc (own := [("_law_k", 5)]) (g := gName 5) rfl sc_law_names.nd (pi_range1 rfl T.z_range (pa_cons (pe_callD (ok_law_take T) (hr.mono (by decide)) rfl T.m_law_take T.F_law_take.kp T.b_law_take .nil (fun σ => passAt (takes_of rfl rfl rfl rfl) σ) (pa_cons (uv 0) (pa_cons pe_int pa_nil))) pa_nil)) (blkOk_by (own := [("_law_k", 5)]) (N := N_law_names) (sc := defScope s_law_names) (by decide +kernel)) (fun _ _ _ _ _ => (pg_name (i := 5) sc_law_names.nd rfl (by first | exact Or.inl rfl | exact Or.inr rfl))) (fun _ _ _ _ _ => pts_nil) (fun _ _ _ _ _ => (pe_ix (show IxR _ (uIx K) from ux_seq) (uv 2) (pe_callD (ok_law_take T) (hr.mono (by decide)) rfl T.m_law_take T.F_law_take.kp T.b_law_take .nil (fun _ => passAt0) (pa_cons (uv 0) (pa_cons pe_int pa_nil))) (fun _ _ => rfl))))))
      (pss_cons (ps_set (i := 4) sc_law_names.nd rfl (by first | exact Or.inl rfl | exact Or.inr rfl) (pe_lst pa_nil))
      (pss_cons (ps_for (passes_of rfl) rfl (pi_range1 rfl T.z_range (pa_cons (uv 1) pa_nil)) (pg_name (i := 5) sc_law_names.nd rfl (by first | exact Or.inl rfl | exact Or.inr rfl)) (pss_cons (ps_par (i := 6) (j := 7) rfl sc_law_names.nd rfl rfl (by decide) rfl rfl (pa_cons (pe_callD (ok_law_take T) (hr.mono (by decide)) rfl T.m_law_take T.F_law_take.kp T.b_law_take .nil (fun σ => passAt (takes_of rfl rfl rfl rfl) σ) (pa_cons (uv 0) (pa_cons pe_int pa_nil))) (pa_cons (pe_callD (ok_law_take T) (hr.mono (by decide)) rfl T.m_law_take T.F_law_take.kp T.b_law_take .nil (fun σ => passAt (takes_of rfl rfl rfl rfl) σ) (pa_cons (uv 0) (pa_cons (pe_op uo_add (pe_callB uk_len rfl T.z_len boot_len (pa_cons (uv 3) pa_nil)) pe_int) pa_nil))) pa_nil)) rfl)
      (pss_cons (ps_set (i := 8) sc_law_names.nd rfl (by first | exact Or.inl rfl | exact Or.inr rfl) (pe_join pe_str (pe_lc (own := [("_law_j", 9)]) (g := gName 9) rfl sc_law_names.nd (pi_range1 rfl T.z_range (pa_cons (pe_op uo_add pe_int (pe_callD (ok_law_take T) (hr.mono (by decide)) rfl T.m_law_take T.F_law_take.kp T.b_law_take .nil (fun σ => passAt (takes_of rfl rfl rfl rfl) σ) (pa_cons (uv 0) (pa_cons pe_int pa_nil)))) pa_nil)) (blkOk_by (own := [("_law_j", 9)]) (N := N_law_names) (sc := defScope s_law_names) (by decide +kernel)) (fun _ _ _ _ _ => (pg_name (i := 9) sc_law_names.nd rfl (by first | exact Or.inl rfl | exact Or.inr rfl))) (fun _ _ _ _ _ => pts_nil) (fun _ _ _ _ _ => (pe_ix (show IxR _ (uIx K) from ux_seq) (uv 2) (pe_callD (ok_law_take T) (hr.mono (by decide)) rfl T.m_law_take T.F_law_take.kp T.b_law_take .nil (fun _ => passAt0) (pa_cons (uv 0) (pa_cons pe_int pa_nil))) (fun _ _ => rfl))))))
      (C8.pss_cut (ps_if (pt_cmpR op_eq (uv 6) pe_int (nomark _)) (pss_one (ps_set (i := 8) sc_law_names.nd rfl (by first | exact Or.inl rfl | exact Or.inr rfl) (pe_op uo_add (pe_op uo_add (pe_slice us_sl (uv 3) po_none (po_some (uv 7))) (pe_ix ux_seq (uv 8) pe_int (fun _ _ => rfl))) (pe_slice us_sl (uv 3) (po_some (uv 7)) po_none)))) pss_nil)
      (C8.pss_cut (ps_if (pt_cmpR op_eq (uv 6) pe_int (nomark _)) (pss_one (ps_set (i := 8) sc_law_names.nd rfl (by first | exact Or.inl rfl | exact Or.inr rfl) (pe_slice us_sl (pe_op uo_add (uv 3) (uv 8)) po_none (po_some pe_int)))) pss_nil)
      (C8.pss_cut (ps_if (pt_cmpR op_eq (uv 6) pe_int (nomark _)) (pss_one (ps_set (i := 8) sc_law_names.nd rfl (by first | exact Or.inl rfl | exact Or.inr rfl) (pe_ix ux_seq (uv 8) pe_int (fun _ _ => rfl)))) pss_nil)
      (pss_cons (ps_while (passes_of rfl) (PW.pt (pw_or (pt_cmpR uo_in (uv 8) (uv 4) rfl) (pw_or1 (pt_cmpR op_eq (uv 8) pe_str (nomark _))))) (pss_one (ps_set (i := 8) sc_law_names.nd rfl (by first | exact Or.inl rfl | exact Or.inr rfl) (pe_op uo_add (pe_ix ux_seq (uv 2) (pe_op uo_mod (pe_op uo_add (pe_bmS PySem.F.plainAttrs_str PySem.F.slot_str_index PySem.F.type_str_index (mt_idx rfl) (uv 2) (pa_cons (pe_ix ux_seq (uv 8) pe_int (fun _ _ => rfl)) pa_nil)) pe_int) pe_int) (fun _ _ => rfl)) (pe_slice us_sl (uv 8) (po_some pe_int) po_none)))))
      (pss_one (ps_expr (pe_bm PySem.F.plainAttrs_list PySem.F.slot_list_append PySem.F.type_list_append mt_append (uv 4) (pa_cons (uv 8) pa_nil)))))))))))
      (pss_one (ps_ret (uv 4))))))), ?_⟩
  walk_at "go"
  refine g_m1 ?_
  walk_at "go"
  refine ⟨p, 6, rfl, hb, by decide, by decide, fun n0 H1 n00 n01 b1 hb1 => ?_⟩
  walk_at "go"
  refine ⟨n0, rfl, by omega, by omega, fun D hD => ?_⟩
  refine lc_mapB walk_range p (fun _ _ v => ∃ c, v = V.str ⟨#[c]⟩ ∧ c ∈ lettersS.cps.toList) (by omega) hD hb1 (fun _ _ _ _ _ r => r) (fun _ _ => trivial) ?_ ?_
  · rintro i x H6 H7 P N hi e6 hb6 ⟨rfl, rfl⟩ k
    walk_at "go"
    refine ⟨rfl, ?_⟩
    walk_at "go"
    refine ⟨p, 26, rfl, hb6, by decide, by decide, fun j H8 j0 j1 b8 hb8 => ?_⟩
    walk_at "go"
    obtain ⟨c, ec, hc⟩ := atI_ex (l := lettersS.cps.toList) j0 (by rw [← str_len, letters_len]; omega)
    refine g_ixS (z := lettersS) ec (by rw [letters_len]; decide) ?_
    exact k _ _ b8 hb8 ⟨c, rfl, List.mem_of_getElem? hc⟩
  intro H2 acc e2 hb2 hacc hla hr2
  obtain ⟨cs, rfl, hcl, hcs⟩ := acc_ones hla hr2
  refine ⟨"", D, cs.map one, rfl, rfl, .inl (sqL hacc), joinB (by omega), ?_⟩
  have sl : (Txt.join "" (cs.map one)).length ≤ 5 := by rw [str_len, joinOnes]; omega
  have slow : Low (Txt.join "" (cs.map one)) := fun c hc => by rw [joinOnes] at hc; exact hcs c hc
  generalize Txt.join "" (cs.map one) = stem at sl slow
  have b02 := b1.trans e2
  clear hr2 hla hacc hcl hcs hb1 e2
  walk_at "go"
  refine g_new fun l hl => ?_
  walk_at "go"
  have nl := hb2.ne hl
  have hl0 : H l = none := by
    cases c : H l with
    | none => rfl
    | some o => rw [b02 _ _ nl c] at hl; cases hl
  refine ⟨_, rfl, by omega, by omega, ?_⟩
  rw [Int.toNat_natCast]
  refine for_it walk_range (fun i σ H3 => (∃ o5 o6 o7 o8, σ = [some (.ref p), some (.int (many : Nat)), some (.str lettersS), some (.str stem), some (.ref l), o5, o6, o7, o8, none]) ∧ But p H H3 ∧ Box H3 p ∧ ∃ ss : List Str, H3 l = some (.lst (ss.map V.str)) ∧ ss.length = i ∧ (∀ s ∈ ss, isName s = true) ∧ ss.Nodup) ⟨⟨none, none, none, none, rfl⟩, b02.at_new hl0, hb2.at_upd nl, [], upd_same, rfl, fun s z => (nomatch z), List.nodup_nil⟩ (fun _ _ _ _ _ => trivial) ?_ ?_
  · rintro i x σ H3 H3' hi ⟨⟨o5, o6, o7, o8, rfl⟩, b3, hb3, ss, hss, hsl, hsn, hsd⟩ ⟨rfl, rfl⟩
    walk_at "go"
    refine ⟨p, 4, rfl, hb3, by decide, by decide, fun form H4 f0 f1 b4 hb4 => ?_⟩
    walk_at "go"
    refine g_lenStr (by omega) ?_
    walk_at "go"
    refine ⟨p, _, rfl, hb4, by omega, Nat.lt_of_lt_of_le (Bits.log (n := 10) (show ((stem.length : Nat) + 1 : Int).natAbs < 2 ^ 10 by omega)) (by decide), fun pos H5 p0 p1 b5 hb5 => ?_⟩
    walk_at "go"
    refine g_m1 ?_
    walk_at "go"
    refine ⟨p, 6, rfl, hb5, by decide, by decide, fun n2 H6 n20 n21 b6 hb6 => ?_⟩
    walk_at "go"
    refine ⟨_, rfl, by omega, by omega, fun D2 hD2 => ?_⟩
    refine lc_mapB walk_range p (fun _ _ v => ∃ c, v = V.str ⟨#[c]⟩ ∧ c ∈ lettersS.cps.toList) (by omega) hD2 hb6 (fun _ _ _ _ _ r => r) (fun _ _ => trivial) ?_ ?_
    · rintro i2 x H7 H8 P N hi2 e7 hb7 ⟨rfl, rfl⟩ k
      walk_at "go"
      refine ⟨rfl, ?_⟩
      walk_at "go"
      refine ⟨p, 26, rfl, hb7, by decide, by decide, fun j H9 j0 j1 b9 hb9 => ?_⟩
      walk_at "go"
      obtain ⟨c, ec, hc⟩ := atI_ex (l := lettersS.cps.toList) j0 (by rw [← str_len, letters_len]; omega)
      refine g_ixS (z := lettersS) ec (by rw [letters_len]; decide) ?_
      exact k _ _ b9 hb9 ⟨c, rfl, List.mem_of_getElem? hc⟩
    intro H7 acc e7 hb7 hacc hla hr2
    obtain ⟨cs, rfl, hcl, hcs⟩ := acc_ones hla hr2
    refine ⟨"", D2, cs.map one, rfl, rfl, .inl (sqL hacc), joinB (by omega), ?_⟩
    have nl1 : 1 ≤ (Txt.join "" (cs.map one)).length := by rw [str_len, joinOnes]; omega
    have nl6 : (Txt.join "" (cs.map one)).length ≤ 6 := by rw [str_len, joinOnes]; omega
    have nlow : Low (Txt.join "" (cs.map one)) := fun c hc => by rw [joinOnes] at hc; exact hcs c hc
    generalize Txt.join "" (cs.map one) = nm at nl1 nl6 nlow
    have b37 := ((b4.trans b5).trans b6).trans e7
    have ss7 : H7 l = some (.lst (ss.map V.str)) := b37 _ _ nl hss
    clear hr2 hla hacc hcl hcs e7 hb4 hb5 hb6 b4 b5 b6
    obtain ⟨at', rfl⟩ := Int.eq_ofNat_of_zero_le p0
    have at_le : at' ≤ stem.length := by omega
    walk_at "go"
    refine ⟨fun σ' H' => H' = H7 ∧ ∃ nm : Str, Low nm ∧ 1 ≤ nm.length ∧ nm.length ≤ 6 ∧ σ' = [some (.ref p), some (.int (many : Nat)), some (.str lettersS), some (.str stem), some (.ref l), some (.int (0 + (i : Int))), some (.int form), some (.int (at' : Nat)), some (.str nm), none], ?_, ?_⟩
    · walk_at "go"
      refine i_eqI (fun c => ?_) fun c => ?_
      · walk_at "go"
        refine g_slS (by omega) ?_
        walk_at "go"
        obtain ⟨d, ed, hd⟩ := atI_ex (l := nm.cps.toList) (j := 0) (by decide) (by rw [← str_len]; omega)
        have l1 : (cutS stem none (some (at' : Int))).length = min at' stem.length := cut_to_len _ _
        have l2 : (cutS stem (some (at' : Int)) none).length = stem.length - at' := by rw [str_len, cut_from at_le, List.length_drop, ← str_len]
        have l3 : (⟨#[d]⟩ : Str).length = 1 := rfl
        refine g_ixS ed (by omega) ?_
        walk_at "go"
        refine g_addS (by omega) ?_
        walk_at "go"
        refine g_slS (by omega) ?_
        walk_at "go"
        have l4 := app_len (cutS stem none (some (at' : Int))) ⟨#[d]⟩
        have l5 := app_len (cutS stem none (some (at' : Int)) ++ ⟨#[d]⟩) (cutS stem (some (at' : Int)) none)
        refine g_addS (by omega) ?_
        walk_at "go"
        have dl : Low ⟨#[d]⟩ := fun c hc => by
          have : c = d := by simpa using hc
          rw [this]
          exact nlow d (List.mem_of_getElem? hd)
        exact ⟨rfl, _, (slow.cut.app dl).app slow.cut, by omega, by omega, rfl⟩
      · walk_at "go"
        exact ⟨rfl, nm, nlow, nl1, nl6, rfl⟩
    clear nlow nl1 nl6
    rintro σ' H' ⟨rfl, nm, nlow, nl1, nl6, rfl⟩
    refine ⟨fun σ' H'' => H'' = H' ∧ ∃ nm : Str, Low nm ∧ 1 ≤ nm.length ∧ nm.length ≤ 6 ∧ σ' = [some (.ref p), some (.int (many : Nat)), some (.str lettersS), some (.str stem), some (.ref l), some (.int (0 + (i : Int))), some (.int form), some (.int (at' : Nat)), some (.str nm), none], ?_, ?_⟩
    · walk_at "go"
      refine i_eqI (fun c => ?_) fun c => ?_
      · walk_at "go"
        have l4 := app_len stem nm
        refine g_addS (by omega) ?_
        walk_at "go"
        refine g_slS (by omega) ?_
        walk_at "go"
        have l1 : (cutS (stem ++ nm) none (some 6)).length = min 6 (stem ++ nm).length := cut_to_len (stem ++ nm) 6
        exact ⟨rfl, _, (slow.app nlow).cut, by omega, by omega, rfl⟩
      · walk_at "go"
        exact ⟨rfl, nm, nlow, nl1, nl6, rfl⟩
    clear nlow nl1 nl6
    rintro σ' H'' ⟨rfl, nm, nlow, nl1, nl6, rfl⟩
    refine ⟨fun σ' H' => H' = H'' ∧ ∃ nm : Str, Low nm ∧ 1 ≤ nm.length ∧ nm.length ≤ 6 ∧ σ' = [some (.ref p), some (.int (many : Nat)), some (.str lettersS), some (.str stem), some (.ref l), some (.int (0 + (i : Int))), some (.int form), some (.int (at' : Nat)), some (.str nm), none], ?_, ?_⟩
    · walk_at "go"
      refine i_eqI (fun c => ?_) fun c => ?_
      · walk_at "go"
        obtain ⟨d, ed, hd⟩ := atI_ex (l := nm.cps.toList) (j := 0) (by decide) (by rw [← str_len]; omega)
        refine g_ixS ed (by omega) ?_
        walk_at "go"
        have dl : Low ⟨#[d]⟩ := fun c hc => by
          have : c = d := by simpa using hc
          rw [this]
          exact nlow d (List.mem_of_getElem? hd)
        exact ⟨rfl, _, dl, Nat.le_refl _, (show 1 ≤ 6 by decide), rfl⟩
      · walk_at "go"
        exact ⟨rfl, nm, nlow, nl1, nl6, rfl⟩
    clear nlow nl1 nl6
    rintro σ' H7 ⟨rfl, nm, nlow, nl1, nl6, rfl⟩
    walk_at "go"
    obtain ⟨a, r, rfl⟩ := rot_of nlow nl1
    refine g_while (fun m σ' H' => H' = H7 ∧ ∃ t, σ' = [some (.ref p), some (.int (many : Nat)), some (.str lettersS), some (.str stem), some (.ref l), some (.int (0 + (i : Int))), some (.int form), some (.int (at' : Nat)), some (.str (rot r (a + t))), none] ∧ (∀ u, u < t → rot r (a + u) ∈ (Str.ofString "kind") :: ss) ∧ t ≤ 13 ∧ m = 14 - t) 14 ⟨rfl, 0, rfl, fun u hu => absurd hu (Nat.not_lt_zero u), by decide, rfl⟩ ?_
    rintro m σ' H' ⟨rfl, t, rfl, hF, ht, rfl⟩
    have ln : (rot r (a + t)).length = r.length + 1 := by rw [str_len, rot_list]; rfl
    have ln0 : (rot r a).length = r.length + 1 := by rw [str_len, rot_list]; rfl
    walk_at "go"
    refine g_inL ss7 ?_
    walk_at "go"
    refine i_d (fun c => ?_) fun c => ?_
    · have hmem : rot r (a + t) ∈ (Str.ofString "kind") :: ss := List.mem_cons_of_mem _ c
      walk_at "go"
      refine g_wn ?_
      walk_at "go"
      refine g_ixS (z := rot r (a + t)) (c := 97 + (a + t) % 26) (atI_nat (j := 0) rfl) (by omega) ?_
      walk_at "go"
      refine g_idx (letters_index ⟨(a + t) % 26, Nat.mod_lt _ (by decide)⟩) ?_
      walk_at "go"
      have em : ((((a + t) % 26 : Nat) : Int) + 1).fmod 26 = (((a + (t + 1)) % 26 : Nat) : Int) := by
        rw [Int.fmod_eq_emod_of_nonneg _ (by decide)]
        omega
      rw [em]
      refine g_ixS (z := lettersS) (atI_nat (letters_at (Nat.mod_lt _ (by decide)))) (by rw [letters_len]; decide) ?_
      walk_at "go"
      refine g_slS (by omega) ?_
      walk_at "go"
      have c1 : (cutS (rot r (a + t)) (some 1) none).cps.toList = (rot r (a + t)).cps.toList.drop 1 := cut_from (a := 1) (by omega)
      have c2 : (cutS (rot r (a + t)) (some 1) none).length = (rot r (a + t)).length - 1 := by rw [str_len, c1, List.length_drop, ← str_len]
      have c3 : (⟨#[97 + (a + (t + 1)) % 26]⟩ : Str).length = 1 := rfl
      refine g_addS (by omega) ?_
      walk_at "go"
      have hrot : (⟨#[97 + (a + (t + 1)) % 26]⟩ : Str) ++ cutS (rot r (a + t)) (some 1) none = rot r (a + (t + 1)) := str_ext (by rw [app_list, c1, rot_list, rot_list]; rfl)
      rw [hrot]
      have fb := rot_bound (r := r) (a := a) (t := t) (F := (Str.ofString "kind") :: ss) (by omega) fun u hu => by
        by_cases e : u = t
        · rw [e]
          exact hmem
        · exact hF u (by omega)
      rw [List.length_cons] at fb
      exact ⟨14 - (t + 1), by omega, rfl, t + 1, rfl, fun u hu => by
        by_cases e : u = t
        · rw [e]
          exact hmem
        · exact hF u (by omega), by omega, rfl⟩
    · walk_at "go"
      refine i_eqS (fun c4 => ?_) fun c4 => ?_
      · have hmem : rot r (a + t) ∈ (Str.ofString "kind") :: ss := by rw [c4]; exact List.mem_cons_self
        walk_at "go"
        refine g_wn ?_
        walk_at "go"
        refine g_ixS (z := rot r (a + t)) (c := 97 + (a + t) % 26) (atI_nat (j := 0) rfl) (by omega) ?_
        walk_at "go"
        refine g_idx (letters_index ⟨(a + t) % 26, Nat.mod_lt _ (by decide)⟩) ?_
        walk_at "go"
        have em : ((((a + t) % 26 : Nat) : Int) + 1).fmod 26 = (((a + (t + 1)) % 26 : Nat) : Int) := by
          rw [Int.fmod_eq_emod_of_nonneg _ (by decide)]
          omega
        rw [em]
        refine g_ixS (z := lettersS) (atI_nat (letters_at (Nat.mod_lt _ (by decide)))) (by rw [letters_len]; decide) ?_
        walk_at "go"
        refine g_slS (by omega) ?_
        walk_at "go"
        have c1 : (cutS (rot r (a + t)) (some 1) none).cps.toList = (rot r (a + t)).cps.toList.drop 1 := cut_from (a := 1) (by omega)
        have c2 : (cutS (rot r (a + t)) (some 1) none).length = (rot r (a + t)).length - 1 := by rw [str_len, c1, List.length_drop, ← str_len]
        have c3 : (⟨#[97 + (a + (t + 1)) % 26]⟩ : Str).length = 1 := rfl
        refine g_addS (by omega) ?_
        walk_at "go"
        have hrot : (⟨#[97 + (a + (t + 1)) % 26]⟩ : Str) ++ cutS (rot r (a + t)) (some 1) none = rot r (a + (t + 1)) := str_ext (by rw [app_list, c1, rot_list, rot_list]; rfl)
        rw [hrot]
        have fb := rot_bound (r := r) (a := a) (t := t) (F := (Str.ofString "kind") :: ss) (by omega) fun u hu => by
          by_cases e : u = t
          · rw [e]
            exact hmem
          · exact hF u (by omega)
        rw [List.length_cons] at fb
        exact ⟨14 - (t + 1), by omega, rfl, t + 1, rfl, fun u hu => by
          by_cases e : u = t
          · rw [e]
            exact hmem
          · exact hF u (by omega), by omega, rfl⟩
      · walk_at "go"
        have lss : ss.length ≤ 12 := by omega
        refine g_app ss7 (Nat.lt_of_le_of_lt (show (ss.map V.str).length ≤ 1000 by rw [List.length_map]; omega) (by decide)) ?_
        walk_at "go"
        have lowt : Low (rot r (a + t)) := fun x hx => by
          rw [rot_list] at hx
          rcases List.mem_cons.1 hx with rfl | hx
          · exact letters_mem.2 ⟨_, Nat.mod_lt _ (by decide), rfl⟩
          · exact nlow x (by rw [rot_list]; exact List.mem_cons_of_mem _ hx)
        have bl : But p H (upd H' l (.lst (ss.map V.str ++ [V.str (rot r (a + t))]))) := (b3.trans b37).at_new hl0
        refine ⟨⟨_, _, _, _, rfl⟩, bl, hb7.at_upd nl, ss ++ [rot r (a + t)], by rw [upd_same, List.map_append]; rfl, by rw [List.length_append, hsl]; rfl, fun s hs => ?_, ?_⟩
        · rcases List.mem_append.1 hs with hs | hs
          · exact hsn s hs
          · rw [List.mem_singleton.1 hs]
            exact isName_of lowt (by omega) (by omega) c4
        · refine List.nodup_append.2 ⟨hsd, List.nodup_cons.2 ⟨fun z => (nomatch z), List.nodup_nil⟩, fun x hx y hy => ?_⟩
          rw [List.mem_singleton.1 hy]
          exact fun e => c (e ▸ hx)
  · rintro σ H3 ⟨⟨o5, o6, o7, o8, rfl⟩, b3, hb3, ss, hss, hsl, hsn, hsd⟩
    walk_at "go"
    exact q _ ss _ hsl hsn hsd hl0 b3 hb3 hss

theorem ok_law_any_text (T : Txt K mg) : FnOk P w K mg base (L2.CX P w) 2 T.a_law_any_text T.d_law_any_text ["_law_box_here"] spAnyText := by
  refine T.F_law_any_text.okX sc_law_any_text (fun vs H Q E h => ?_) (fun cdv A outer s H vs Q E hr h => ?_)
  · obtain ⟨_, rfl, _⟩ := h
    rfl
  obtain ⟨p, rfl, hb, q⟩ := h
  refine ⟨_, (pss_cons (ps_set (i := 1) sc_law_any_text.nd rfl (by first | exact Or.inl rfl | exact Or.inr rfl) (pe_lst (pa_cons pe_str (pa_cons pe_str (pa_cons pe_str (pa_cons pe_str (pa_cons pe_str (pa_cons pe_str (pa_cons pe_str (pa_cons pe_str (pa_cons pe_str (pa_cons pe_str (pa_cons pe_str (pa_cons pe_str (pa_cons pe_str (pa_cons pe_str (pa_cons pe_str pa_nil)))))))))))))))))
      (pss_cons (ps_set (i := 2) sc_law_any_text.nd rfl (by first | exact Or.inl rfl | exact Or.inr rfl) pe_str)
      (pss_cons (ps_if (pt_cmpR op_eq (pe_callD (ok_law_take T) (hr.mono (by decide)) rfl T.m_law_take T.F_law_take.kp T.b_law_take .nil (fun σ => passAt (takes_of rfl rfl rfl rfl) σ) (pa_cons (uv 0) (pa_cons pe_int pa_nil))) pe_int (nomark _)) (pss_one (ps_ret (pe_ix ux_seq (uv 1) (pe_callD (ok_law_take T) (hr.mono (by decide)) rfl T.m_law_take T.F_law_take.kp T.b_law_take .nil (fun σ => passAt (takes_of rfl rfl rfl rfl) σ) (pa_cons (uv 0) (pa_cons pe_int pa_nil))) (fun _ _ => rfl)))) pss_nil)
      (pss_cons (ps_set (i := 3) sc_law_any_text.nd rfl (by first | exact Or.inl rfl | exact Or.inr rfl) (pe_ix ux_seq (pe_lst (pa_cons pe_int (pa_cons (pe_callB uk_len rfl T.z_len boot_len (pa_cons (uv 2) pa_nil)) pa_nil))) (pe_callTy uk_int rfl T.z_int boot_int (pa_cons (pe_cmpR op_eq (pe_callD (ok_law_take T) (hr.mono (by decide)) rfl T.m_law_take T.F_law_take.kp T.b_law_take .nil (fun σ => passAt (takes_of rfl rfl rfl rfl) σ) (pa_cons (uv 0) (pa_cons pe_int pa_nil))) pe_int (nomark _)) pa_nil)) (fun _ _ => rfl)))
      (pss_one (ps_ret (pe_join pe_str (pe_lc (own := [("_law_k", 4)]) (g := gName 4) rfl sc_law_any_text.nd (pi_range1 rfl T.z_range (pa_cons (pe_callD (ok_law_take T) (hr.mono (by decide)) rfl T.m_law_take T.F_law_take.kp T.b_law_take .nil (fun σ => passAt (takes_of rfl rfl rfl rfl) σ) (pa_cons (uv 0) (pa_cons pe_int pa_nil))) pa_nil)) (blkOk_by (own := [("_law_k", 4)]) (N := N_law_any_text) (sc := defScope s_law_any_text) (by decide +kernel)) (fun _ _ _ _ _ => (pg_name (i := 4) sc_law_any_text.nd rfl (by first | exact Or.inl rfl | exact Or.inr rfl))) (fun _ _ _ _ _ => pts_nil) (fun _ _ _ _ _ => (pe_ix (show IxR _ (uIx K) from ux_seq) (uv 2) (pe_callD (ok_law_take T) (hr.mono (by decide)) rfl T.m_law_take T.F_law_take.kp T.b_law_take .nil (fun _ => passAt0) (pa_cons (uv 0) (pa_cons (uv 3) pa_nil))) (fun _ _ => rfl))))))))))), ?_⟩
  walk_at "go"
  refine g_new fun l hl => ?_
  have e1 := Ex.new (o := .lst (anyTexts.map V.str)) hl
  have l1 := @upd_same H l (.lst (anyTexts.map V.str))
  have hb1 := hb.at_upd (o := .lst (anyTexts.map V.str)) (hb.ne hl)
  walk_at "go"
  show spTake _ (upd H l (.lst (anyTexts.map V.str))) _ _
  revert e1 l1 hb1
  generalize upd H l (.lst (anyTexts.map V.str)) = H1
  intro e1 l1 hb1
  have nl := hb.ne hl
  refine ⟨p, 3, rfl, hb1, by decide, by decide, fun d H2 d0 d1 b2 hb2 => ?_⟩
  walk_at "go"
  refine i_eqI (fun c => ?_) fun c => ?_
  · walk_at "go"
    refine ⟨p, 15, rfl, hb2, by decide, by decide, fun j H3 j0 j1 b3 hb3 => ?_⟩
    walk_at "go"
    obtain ⟨s, es, hs⟩ := atI_strs (ss := anyTexts) j0 j1
    refine g_ixL (b3 _ _ nl (b2 _ _ nl l1)) es ?_
    walk_at "go"
    exact q s _ (anyTexts_ok s hs) (((e1.but p).trans b2).trans b3) hb3
  · walk_at "go"
    refine g_lenStr (z := anySigns) (by rw [anySigns_len]; decide) ?_
    rw [anySigns_len]
    walk_at "go"
    refine g_new fun l2 hl2 => ?_
    have nl2 := hb2.ne hl2
    have e3 := Ex.new (o := .lst [.int 26, .int (69 : Nat)]) hl2
    have l3 := @upd_same H2 l2 (.lst [.int 26, .int (69 : Nat)])
    have hb3 := hb2.at_upd (o := .lst [.int 26, .int (69 : Nat)]) nl2
    revert e3 l3 hb3
    generalize upd H2 l2 (.lst [.int 26, .int (69 : Nat)]) = H3
    intro e3 l3 hb3
    walk_at "go"
    refine ⟨p, 3, rfl, hb3, by decide, by decide, fun d' H4 d0' d1' b4 hb4 => ?_⟩
    walk_at "go"
    have ev : ∃ m : Int, atI [V.int 26, .int (69 : Nat)] (b2z (decide (V.int d' = V.int 0))) = some (.int m) ∧ 0 < m ∧ m ≤ 69 := by
      by_cases k : V.int d' = V.int 0
      · rw [decide_eq_true k]
        exact ⟨_, rfl, by decide, by decide⟩
      · rw [decide_eq_false k]
        exact ⟨_, rfl, by decide, by decide⟩
    obtain ⟨m, em, m0, m1⟩ := ev
    refine g_ixL (b4 _ _ nl2 l3) em ?_
    walk_at "go"
    refine g_m1 ?_
    walk_at "go"
    refine ⟨p, 9, rfl, hb4, by decide, by decide, fun n H5 n0 n1 b5 hb5 => ?_⟩
    walk_at "go"
    refine ⟨n, rfl, by omega, by omega, fun D hD => ?_⟩
    refine lc_mapB walk_range p (fun _ _ v => ∃ c, v = V.str ⟨#[c]⟩ ∧ c < 0x110000) (by omega) hD hb5 (fun _ _ _ _ _ r => r) (fun _ _ => trivial) ?_ ?_
    · rintro i x H6 H7 P N hi e6 hb6 ⟨rfl, rfl⟩ k
      walk_at "go"
      refine ⟨rfl, ?_⟩
      walk_at "go"
      refine ⟨p, m, rfl, hb6, m0, Nat.lt_of_lt_of_le (Bits.log (n := 10) (show m.natAbs < 2 ^ 10 by omega)) (by decide), fun j H8 j0 j1 b8 hb8 => ?_⟩
      walk_at "go"
      have al : (j : Int) < anySigns.cps.toList.length := by rw [← str_len, anySigns_len]; omega
      obtain ⟨c, ec, hc⟩ := atI_ex (l := anySigns.cps.toList) j0 al
      refine g_ixS (z := anySigns) ec (by rw [anySigns_len]; decide) ?_
      exact k _ _ b8 hb8 ⟨c, rfl, anySigns_ok c (List.mem_of_getElem? hc)⟩
    · intro H6 acc e6 hb6 hacc hla hr2
      obtain ⟨cs, rfl, hcl, hcs⟩ := acc_ones hla hr2
      refine ⟨"", D, cs.map one, rfl, rfl, .inl (sqL hacc), joinB (by omega), ?_⟩
      walk_at "go"
      refine q _ _ ⟨?_, ?_⟩ ((((((e1.but p).trans b2).trans (e3.but p)).trans b4).trans b5).trans e6) hb6
      · rw [str_len, joinOnes]
        omega
      · rw [joinOnes]
        exact hcs

def spNeedT : Sp := fun vs H Q _ => ∃ x y : V, vs = [.bl true, x, y] ∧ Q .non H
theorem ok_need (T : Txt K mg) : FnOk P w K mg base (L2.CX P w) 3 T.a_need T.d_need ["good", "word", "name"] spNeedT := by
  refine T.F_need.ok sc_need (fun vs H Q E h => ?_) (fun cdv A outer s H vs Q E hr h => ?_)
  · obtain ⟨_, _, rfl, _⟩ := h
    rfl
  obtain ⟨x, y, rfl, q⟩ := h
  refine ⟨_, (pss_one (ps_if (pt_not (ut (uv 0))) (pss_one (ps_no)) pss_nil)), ?_⟩
  walk_at "go"
  exact q

theorem ok_kind_of (T : Txt K mg) : FnOk P w K mg base (L2.CX P w) 3 T.a_kind_of T.d_kind_of ["wood", "maker"] spKindOf := by
  refine T.F_kind_of.okX sc_kind_of (fun vs H Q E h => ?_) (fun cdv A outer s H vs Q E hr h => ?_)
  · obtain ⟨_, _, _, rfl, _⟩ := h
    rfl
  obtain ⟨wd, v, e, rfl, rv, pre, he, q⟩ := h
  refine ⟨_, (pss_one (ps_ret (pe_ix ux_seq (pe_dget (hu_of hr) (pe_callD (ok_maker_table T) (hr.mono (by decide)) rfl T.m_maker_table T.F_maker_table.kp T.b_maker_table .nil (fun σ => passAt (takes_of rfl rfl rfl rfl) σ) (pa_cons (uv 0) pa_nil)) (uv 1) (fun _ _ => rfl)) pe_int (fun _ _ => rfl)))), ?_⟩
  walk_at "go"
  refine ⟨wd, _, rfl, rv, pre, fun d kvs H1 e1 hd hT => ?_⟩
  obtain ⟨p, t, a1, hp, ht⟩ := hT.2 e he
  walk_at "go"
  refine g_dgS hd a1 ?_
  walk_at "go"
  exact q _ e1

theorem ok_parts_of (T : Txt K mg) : FnOk P w K mg base (L2.CX P w) 3 T.a_parts_of T.d_parts_of ["wood", "maker"] spPartsOf := by
  refine T.F_parts_of.okX sc_parts_of (fun vs H Q E h => ?_) (fun cdv A outer s H vs Q E hr h => ?_)
  · obtain ⟨_, _, _, rfl, _⟩ := h
    rfl
  obtain ⟨wd, v, e, rfl, rv, pre, he, q⟩ := h
  refine ⟨_, (pss_one (ps_ret (pe_ix ux_seq (pe_dget (hu_of hr) (pe_callD (ok_maker_table T) (hr.mono (by decide)) rfl T.m_maker_table T.F_maker_table.kp T.b_maker_table .nil (fun σ => passAt (takes_of rfl rfl rfl rfl) σ) (pa_cons (uv 0) pa_nil)) (uv 1) (fun _ _ => rfl)) pe_int (fun _ _ => rfl)))), ?_⟩
  walk_at "go"
  refine ⟨wd, _, rfl, rv, pre, fun d kvs H1 e1 hd hT => ?_⟩
  obtain ⟨p, t, a1, hp, ht⟩ := hT.2 e he
  walk_at "go"
  refine g_dgS hd a1 ?_
  walk_at "go"
  exact q _ _ e1 ht

theorem ok_law_wood (T : Txt K mg) : FnOk P w K mg base (L2.CX P w) 3 T.a_law_wood T.d_law_wood ["_law_box_here", "_law_most"] spWood := by
  refine T.F_law_wood.okX sc_law_wood (fun vs H Q E h => ?_) (fun cdv A outer s H vs Q E hr h => ?_)
  · obtain ⟨_, rfl, _⟩ := h
    rfl
  obtain ⟨p, rfl, hb, q⟩ := h
  refine ⟨_, (pss_cons (ps_asg (pe_tup (pa_cons (pe_callD (ok_law_take T) (hr.mono (by decide)) rfl T.m_law_take T.F_law_take.kp T.b_law_take .nil (fun σ => passAt (takes_of rfl rfl rfl rfl) σ) (pa_cons (uv 0) (pa_cons pe_int pa_nil))) (pa_cons (pe_op uo_add pe_int (pe_ix ux_seq (pe_lst (pa_cons pe_int (pa_cons pe_int (pa_cons pe_int (pa_cons pe_int (pa_cons pe_int (pa_cons pe_int pa_nil))))))) (pe_callD (ok_law_take T) (hr.mono (by decide)) rfl T.m_law_take T.F_law_take.kp T.b_law_take .nil (fun σ => passAt (takes_of rfl rfl rfl rfl) σ) (pa_cons (uv 0) (pa_cons pe_int pa_nil))) (fun _ _ => rfl))) pa_nil))) (pg_tup rfl (pgs_cons (pg_name (i := 2) sc_law_wood.nd rfl (by first | exact Or.inl rfl | exact Or.inr rfl)) (pgs_cons (pg_name (i := 3) sc_law_wood.nd rfl (by first | exact Or.inl rfl | exact Or.inr rfl)) pgs_nil))))
      (pss_cons (ps_asg (pe_tup (pa_cons (pe_callD (ok_law_names T) (hr.mono (by decide)) rfl T.m_law_names T.F_law_names.kp T.b_law_names .nil (fun σ => passAt (takes_of rfl rfl rfl rfl) σ) (pa_cons (uv 0) (pa_cons (uv 3) pa_nil))) (pa_cons (pe_op uo_mul (pe_op uo_add pe_int (pe_callD (ok_law_take T) (hr.mono (by decide)) rfl T.m_law_take T.F_law_take.kp T.b_law_take .nil (fun σ => passAt (takes_of rfl rfl rfl rfl) σ) (pa_cons (uv 0) (pa_cons (uv 1) pa_nil)))) (pe_callTy uk_int rfl T.z_int boot_int (pa_cons (pe_cmpR uo_gt (pe_callD (ok_law_take T) (hr.mono (by decide)) rfl T.m_law_take T.F_law_take.kp T.b_law_take .nil (fun σ => passAt (takes_of rfl rfl rfl rfl) σ) (pa_cons (uv 0) (pa_cons pe_int pa_nil))) pe_int (nomark _)) pa_nil))) pa_nil))) (pg_tup rfl (pgs_cons (pg_name (i := 4) sc_law_wood.nd rfl (by first | exact Or.inl rfl | exact Or.inr rfl)) (pgs_cons (pg_name (i := 5) sc_law_wood.nd rfl (by first | exact Or.inl rfl | exact Or.inr rfl)) pgs_nil))))
      (pss_cons (ps_set (i := 6) sc_law_wood.nd rfl (by first | exact Or.inl rfl | exact Or.inr rfl) (pe_callD (ok_law_names T) (hr.mono (by decide)) rfl T.m_law_names T.F_law_names.kp T.b_law_names .nil (fun σ => passAt (takes_of rfl rfl rfl rfl) σ) (pa_cons (uv 0) (pa_cons (uv 5) pa_nil))))
      (pss_cons (ps_setLc (i := 7) (own := [("_law_k", 8)]) (g := gName 8) rfl sc_law_wood.nd rfl rfl (sw_true rfl rfl rfl (by decide +kernel)) (pi_range1 rfl T.z_range (pa_cons (uv 3) pa_nil)) (blkOk_by (own := [("_law_k", 8)]) (N := N_law_wood) (sc := defScope s_law_wood) (by decide +kernel)) (fun _ _ _ _ _ => (pg_name (i := 8) sc_law_wood.nd rfl (by first | exact Or.inl rfl | exact Or.inr rfl))) (fun _ _ _ _ _ => pts_nil) (fun _ _ _ _ _ => (pe_lst pa_nil)))
      (pss_cons (ps_for (passes_of rfl) rfl (ui_enum rfl T.z_enumerate (pa_cons (uv 6) pa_nil)) (pg_tup rfl (pgs_cons (pg_name (i := 8) sc_law_wood.nd rfl (by first | exact Or.inl rfl | exact Or.inr rfl)) (pgs_cons (pg_name (i := 9) sc_law_wood.nd rfl (by first | exact Or.inl rfl | exact Or.inr rfl)) pgs_nil))) (pss_cons (ps_par (i := 10) (j := 11) rfl sc_law_wood.nd rfl rfl (by decide) rfl rfl (pa_cons (pe_callD (ok_law_take T) (hr.mono (by decide)) rfl T.m_law_take T.F_law_take.kp T.b_law_take .nil (fun σ => passAt (takes_of rfl rfl rfl rfl) σ) (pa_cons (uv 0) (pa_cons (uv 3) pa_nil))) (pa_cons (pe_ix ux_seq (pe_lst (pa_cons pe_int (pa_cons pe_int (pa_cons pe_int (pa_cons pe_int (pa_cons pe_int (pa_cons pe_int pa_nil))))))) (pe_callD (ok_law_take T) (hr.mono (by decide)) rfl T.m_law_take T.F_law_take.kp T.b_law_take .nil (fun σ => passAt (takes_of rfl rfl rfl rfl) σ) (pa_cons (uv 0) (pa_cons pe_int pa_nil))) (fun _ _ => rfl)) pa_nil)) rfl)
      (pss_cons (ps_set (i := 12) sc_law_wood.nd rfl (by first | exact Or.inl rfl | exact Or.inr rfl) (pe_callTy uk_tup rfl T.z_tuple boot_tuple (pa_cons (pe_lc (own := [("_law_j", 13)]) (g := gName 13) rfl sc_law_wood.nd (pi_range1 rfl T.z_range (pa_cons (uv 11) pa_nil)) (blkOk_by (own := [("_law_j", 13)]) (N := N_law_wood) (sc := defScope s_law_wood) (by decide +kernel)) (fun _ _ _ _ _ => (pg_name (i := 13) sc_law_wood.nd rfl (by first | exact Or.inl rfl | exact Or.inr rfl))) (fun _ _ _ _ _ => pts_nil) (fun _ _ _ _ _ => (pe_ix (show IxR _ (uIx K) from ux_seq) (uv 4) (pe_callD (ok_law_take T) (hr.mono (by decide)) rfl T.m_law_take T.F_law_take.kp T.b_law_take .nil (fun _ => passAt0) (pa_cons (uv 0) (pa_cons (uv 3) pa_nil))) (fun _ _ => rfl)))) pa_nil)))
      (C8.pss_cut (ps_if (PW.pt (pw_and (pt_cmpR uo_gt (uv 2) pe_int (nomark _)) (pw_and1 (pt_cmpR uo_lt (uv 8) (uv 3) (nomark _))))) (pss_one (ps_par (i := 10) (j := 12) rfl sc_law_wood.nd rfl rfl (by decide) rfl rfl (pa_cons (uv 8) (pa_cons (pe_tup pa_nil) pa_nil)) rfl)) pss_nil)
      (pss_one (ps_expr (pe_bm PySem.F.plainAttrs_list PySem.F.slot_list_append PySem.F.type_list_append mt_append (pe_ix ux_seq (uv 7) (uv 10) (fun _ _ => rfl)) (pa_cons (pe_tup (pa_cons (uv 9) (pa_cons (uv 12) pa_nil))) pa_nil))))))))
      (pss_one (ps_ret (pe_callTy uk_tup rfl T.z_tuple boot_tuple (pa_cons (pe_lc (own := [("_law_kind", 10), ("_law_row", 14)]) (g := gTup K 2 (gCons (gName 10) (gCons (gName 14) gNil))) rfl sc_law_wood.nd (RZ.pi_zipA rfl T.z_zip (pa_cons (uv 4) (pa_cons (uv 7) pa_nil))) (blkOk_by (own := [("_law_kind", 10), ("_law_row", 14)]) (N := N_law_wood) (sc := defScope s_law_wood) (by decide +kernel)) (fun _ _ _ _ _ => (pg_tup rfl (pgs_cons (pg_name (i := 10) sc_law_wood.nd rfl (by first | exact Or.inl rfl | exact Or.inr rfl)) (pgs_cons (pg_name (i := 14) sc_law_wood.nd rfl (by first | exact Or.inl rfl | exact Or.inr rfl)) pgs_nil)))) (fun _ _ _ _ _ => pts_nil) (fun _ _ _ _ _ => (pe_tup (pa_cons (uv 10) (pa_cons (pe_callTy (show CallR _ (.type "tuple") (uTup K) from uk_tup) rfl T.z_tuple boot_tuple (pa_cons (uv 14) pa_nil)) pa_nil))))) pa_nil))))))))), ?_⟩
  walk_at "go"
  refine ⟨p, 5, rfl, hb, by decide, by decide, fun pl H1 pl0 pl1 b1 hb1 => ?_⟩
  walk_at "go"
  refine g_new fun l1 hl1 => ?_
  walk_at "go"
  have n1 := hb1.ne hl1
  refine ⟨p, 6, rfl, hb1.at_upd n1, by decide, by decide, fun d H3 d0 d1 b3 hb3 => ?_⟩
  have l3 := b3 _ _ n1 (@upd_same H1 l1 (.lst [.int 0, .int 0, .int 1, .int 1, .int 2, .int 3]))
  have ev : ∃ m : Nat, atI [V.int 0, .int 0, .int 1, .int 1, .int 2, .int 3] d = some (.int (m : Nat)) ∧ m ≤ 3 := by
    have z : d = 0 ∨ d = 1 ∨ d = 2 ∨ d = 3 ∨ d = 4 ∨ d = 5 := by omega
    rcases z with rfl | rfl | rfl | rfl | rfl | rfl
    · exact ⟨0, rfl, by decide⟩
    · exact ⟨0, rfl, by decide⟩
    · exact ⟨1, rfl, by decide⟩
    · exact ⟨1, rfl, by decide⟩
    · exact ⟨2, rfl, by decide⟩
    · exact ⟨3, rfl, by decide⟩
  obtain ⟨m, em, hm3⟩ := ev
  walk_at "go"
  refine g_ixL l3 em ?_
  have em2 : (1 + (m : Int)) = ((m + 1 : Nat) : Int) := by omega
  walk_at "go"
  rw [em2]
  refine g_new fun tt0 htt0 => ?_
  have e3x := Ex.new (o := .tup [.int pl, .int ((m + 1 : Nat) : Int)]) htt0
  have hb3x := hb3.at_upd (o := .tup [.int pl, .int ((m + 1 : Nat) : Int)]) (hb3.ne htt0)
  refine g_tup2 upd_same ?_
  revert e3x hb3x
  generalize upd H3 tt0 (.tup [.int pl, .int ((m + 1 : Nat) : Int)]) = H3x
  intro e3x hb3x
  have bA : But p H H3x := ((b1.trans ((Ex.new hl1).but p)).trans b3).trans (e3x.but p)
  walk_at "go"
  refine ⟨p, m + 1, rfl, hb3x, by omega, fun kl ks H4 hksl hkn hkd hkl0 b4 hb4 hk4 => ?_⟩
  walk_at "go"
  refine ⟨p, 12, rfl, hb4, by decide, by decide, fun a H5 a0 a1 b5 hb5 => ?_⟩
  walk_at "go"
  refine ⟨p, 16, rfl, hb5, by decide, by decide, fun c H6 c0 c1 b6 hb6 => ?_⟩
  have esm : ∃ sm : Nat, (1 + a) * b2z (decide (0 < c)) = (sm : Int) ∧ sm ≤ 12 := by
    by_cases k : 0 < c
    · rw [decide_eq_true k]
      exact ⟨(1 + a).toNat, by show (1 + a) * 1 = _; omega, by omega⟩
    · rw [decide_eq_false k]
      exact ⟨0, by show (1 + a) * 0 = _; omega, by decide⟩
  obtain ⟨sm, esm, hsm⟩ := esm
  have cmA : CMm (1 + a) (b2z (decide (0 < c))) := (show Bits 10 (1 + a) from by unfold Bits; omega).cm (b2z_bits _)
  walk_at "go"
  rw [esm]
  walk_at "go"
  refine g_new fun tt htt => ?_
  have e7x := Ex.new (o := .tup [.ref kl, .int (sm : Nat)]) htt
  have hb7x := hb6.at_upd (o := .tup [.ref kl, .int (sm : Nat)]) (hb6.ne htt)
  refine g_tup2 upd_same ?_
  revert e7x hb7x
  generalize upd H6 tt (.tup [.ref kl, .int (sm : Nat)]) = H6x
  intro e7x hb7x
  walk_at "go"
  refine ⟨p, sm, rfl, hb7x, hsm, fun nl ns H7 hnsl hnn hnd hnl0 b7 hb7 hn7 => ?_⟩
  have nkp : kl ≠ p := hb3x.ne hkl0
  have nnp : nl ≠ p := hb7x.ne hnl0
  have hk7 := b7 _ _ nkp (e7x _ _ (b6 _ _ nkp (b5 _ _ nkp hk4)))
  have bB : But p H H7 := (bA.trans b4).trans ((b5.trans b6).trans ((e7x.but p).trans b7))
  walk_at "go"
  refine ⟨_, rfl, by omega, by omega, fun Dr hDr => ?_⟩
  rw [Int.toNat_natCast]
  refine lc_it walk_range (fun i H8 => Ex H7 H8 ∧ ∃ ras : List Addr, H8 Dr = some (.lst (ras.map V.ref)) ∧ ras.length = i ∧ ras.Nodup ∧ ∀ r ∈ ras, H7 r = none ∧ H8 r = some (.lst []) ∧ r ≠ Dr) ⟨Ex.new hDr, [], upd_same, rfl, List.nodup_nil, fun r z => (nomatch z)⟩ (fun _ _ _ _ => trivial) ?_ ?_
  · rintro i x H8 H8' hi ⟨e, ras, hD8, hrl, hrn, hrr⟩ ⟨rfl, rfl⟩
    walk_at "go"
    refine ⟨rfl, ?_⟩
    walk_at "go"
    refine g_new fun r hr8 => ?_
    have nrD : r ≠ Dr := fun z => by rw [z, hD8] at hr8; cases hr8
    refine ⟨_, Ex.new hr8 _ _ hD8, Nat.lt_of_le_of_lt (by rw [List.length_map]; omega : (ras.map V.ref).length ≤ 10) (by decide), (e.trans (Ex.new hr8)).at_new hDr, ras ++ [r], by rw [upd_same, List.map_append]; rfl, by rw [List.length_append, hrl]; rfl, ?_, fun x hx => ?_⟩
    · refine List.nodup_append.2 ⟨hrn, List.nodup_cons.2 ⟨fun z => (nomatch z), List.nodup_nil⟩, fun x hx y hy => ?_⟩
      rw [List.mem_singleton.1 hy]
      intro z
      have := (hrr x hx).2.1
      rw [z, hr8] at this
      cases this
    · rcases List.mem_append.1 hx with hx | hx
      · obtain ⟨a1, a2, a3⟩ := hrr x hx
        exact ⟨a1, by rw [upd_ne a3]; exact Ex.new hr8 _ _ a2, a3⟩
      · rw [List.mem_singleton.1 hx]
        exact ⟨e.free hr8, by rw [upd_ne nrD]; exact upd_same, nrD⟩
  rintro H8 ⟨e8, ras, hD8, hrl, hrn, hrr⟩
  have nDp : Dr ≠ p := hb7.ne hDr
  have nrp : ∀ r ∈ ras, r ≠ p := fun r hr' => hb7.ne (hrr r hr').1
  have nrk : ∀ r ∈ ras, kl ≠ r := fun r hr' z => by rw [z, (hrr r hr').1] at hk7; cases hk7
  have nrn : ∀ r ∈ ras, nl ≠ r := fun r hr' z => by rw [z, (hrr r hr').1] at hn7; cases hn7
  have bC : But p H H8 := bB.trans (e8.but p)
  have hr0 : ∀ r ∈ ras, H r = none := fun r hr' => by
    cases c : H r with
    | none => rfl
    | some o =>
      have := bB _ _ (nrp r hr') c
      rw [(hrr r hr').1] at this
      cases this
  walk_at "go"
  refine g_enL ?_
  walk_at "go"
  refine ⟨_, _, rfl, sqL (e8 _ _ hn7), ?_⟩
  refine for_it walk_enum (fun i σ H9 => (∃ o8 o9 o10 o11 o12, σ = [some (.ref p), some (.int 12), some (.int pl), some (.int ((m + 1 : Nat) : Int)), some (.ref kl), some (.int (sm : Nat)), some (.ref nl), some (.ref Dr), o8, o9, o10, o11, o12, none, none]) ∧ But p H H9 ∧ Box H9 p ∧ H9 kl = some (.lst (ks.map V.str)) ∧ H9 nl = some (.lst (ns.map V.str)) ∧ H9 Dr = some (.lst (ras.map V.ref)) ∧ ∃ R, Rows H9 ras R ∧ R.length = m + 1 ∧ (∀ r ∈ R, ∀ k ∈ r, MkOk ks k) ∧ (rowNames R).Perm (ns.take i))
    ⟨⟨_, _, _, _, _, rfl⟩, bC, hb7.ex e8, e8 _ _ hk7, e8 _ _ hn7, hD8, List.replicate (m + 1) [], ⟨by rw [hrl, List.length_replicate], hrn, fun j a r ha hr' => ?_⟩, List.length_replicate, fun r hr' k hk' => ?_, ?_⟩ (fun i σ H9 _ h => sqL h.2.2.2.2.1) ?_ ?_
  · have z : r = [] := by
      have := List.mem_of_getElem? hr'
      exact (List.mem_replicate.1 this).2
    subst z
    exact ⟨[], (hrr a (List.mem_of_getElem? ha)).2.1, by simp only [List.map, Reps]⟩
  · rw [(List.mem_replicate.1 hr').2] at hk'
    cases hk'
  · have z : ∀ n, rowNames (List.replicate n []) = [] := fun n => by
      induction n with
      | zero => rfl
      | succ n ih => exact ih
    rw [z]
    exact List.Perm.refl _
  · rintro i x σ H9 H9' hi ⟨⟨o8, o9, o10, o11, o12, rfl⟩, b9, hb9, hk9, hn9, hD9, R, hR, hRl, hRm, hRp⟩ ⟨t, y, z, rfl, ht, rfl, ey, ez⟩
    cases ey
    replace ez : (ns.map V.str)[i]? = some z := ez
    rw [List.getElem?_map] at ez
    cases en : ns[i]? with
    | none => rw [en] at ez; cases ez
    | some n =>
    rw [en] at ez
    cases ez
    have hnn' := hnn n (List.mem_of_getElem? en)
    refine g_tup2 upd_same ?_
    have bx : But p H9 (upd H9 t (.tup [.int (i : Nat), .str n])) := (Ex.new ht).but p
    have hbx := hb9.at_upd (o := .tup [.int (i : Nat), .str n]) (hb9.ne ht)
    revert bx hbx
    generalize upd H9 t (.tup [.int (i : Nat), .str n]) = H10
    intro bx hbx
    walk_at "go"
    refine ⟨p, _, rfl, hbx, by omega, Nat.lt_of_lt_of_le (Bits.log (n := 10) (show (((m + 1 : Nat) : Int)).natAbs < 2 ^ 10 by omega)) (by decide), fun kd H11 kd0 kd1 b11 hb11 => ?_⟩
    walk_at "go"
    refine g_new fun l2 hl2 => ?_
    walk_at "go"
    have n2 := hb11.ne hl2
    refine ⟨p, 6, rfl, hb11.at_upd n2, by decide, by decide, fun d2 H12 d20 d21 b12 hb12 => ?_⟩
    have l12 := b12 _ _ n2 (@upd_same H11 l2 (.lst [.int 0, .int 0, .int 1, .int 1, .int 2, .int 2]))
    have ev : ∃ wi : Nat, atI [V.int 0, .int 0, .int 1, .int 1, .int 2, .int 2] d2 = some (.int (wi : Nat)) ∧ wi ≤ 2 := by
      have z : d2 = 0 ∨ d2 = 1 ∨ d2 = 2 ∨ d2 = 3 ∨ d2 = 4 ∨ d2 = 5 := by omega
      rcases z with rfl | rfl | rfl | rfl | rfl | rfl
      · exact ⟨0, rfl, by decide⟩
      · exact ⟨0, rfl, by decide⟩
      · exact ⟨1, rfl, by decide⟩
      · exact ⟨1, rfl, by decide⟩
      · exact ⟨2, rfl, by decide⟩
      · exact ⟨2, rfl, by decide⟩
    obtain ⟨wi, ewi, hwi⟩ := ev
    have b912 : But p H9 H12 := (bx.trans b11).trans (((Ex.new hl2).but p).trans b12)
    walk_at "go"
    refine g_ixL l12 ewi ?_
    walk_at "go"
    refine ⟨_, rfl, by omega, by omega, fun D2 hD2 => ?_⟩
    rw [Int.toNat_natCast]
    refine lc_mapB walk_range p (fun _ _ v => ∃ s, v = V.str s ∧ s ∈ ks) (by omega) hD2 hb12 (fun _ _ _ _ _ r => r) (fun _ _ => trivial) ?_ ?_
    · rintro j x H13 H13' P N hj e13 hb13 ⟨rfl, rfl⟩ k
      walk_at "go"
      refine ⟨rfl, ?_⟩
      walk_at "go"
      refine ⟨p, _, rfl, hb13, by omega, Nat.lt_of_lt_of_le (Bits.log (n := 10) (show (((m + 1 : Nat) : Int)).natAbs < 2 ^ 10 by omega)) (by decide), fun j2 H14 j20 j21 b14 hb14 => ?_⟩
      walk_at "go"
      obtain ⟨s, es, hs⟩ := atI_strs (ss := ks) j20 (by omega)
      refine g_ixL (b14 _ _ nkp (e13 _ _ nkp (b912 _ _ nkp hk9))) es ?_
      exact k _ _ b14 hb14 ⟨s, rfl, hs⟩
    intro H13 acc e13 hb13 hacc hla hr2
    obtain ⟨ps, rfl, hpl, hpp⟩ := acc_strs hla hr2
    walk_at "go"
    refine g_tupOf hacc fun t2 ht2 => ?_
    have b914 : But p H9 (upd H13 t2 (.tup (ps.map V.str))) := (b912.trans e13).trans ((Ex.new ht2).but p)
    have hb14 := hb13.at_upd (o := .tup (ps.map V.str)) (hb13.ne ht2)
    have h14 := @upd_same H13 t2 (.tup (ps.map V.str))
    revert b914 hb14 h14
    generalize upd H13 t2 (.tup (ps.map V.str)) = H14
    intro b914 hb14 h14
    walk_at "go"
    obtain ⟨kq, rfl⟩ := Int.eq_ofNat_of_zero_le kd0
    refine ⟨fun σ' H' => ∃ (qd : Nat) (pa : Addr) (ps : List Str), qd < m + 1 ∧ σ' = [some (.ref p), some (.int 12), some (.int pl), some (.int ((m + 1 : Nat) : Int)), some (.ref kl), some (.int (sm : Nat)), some (.ref nl), some (.ref Dr), some (.int (i : Nat)), some (.str n), some (.int (qd : Nat)), some (.int (wi : Nat)), some (.ref pa), none, none] ∧ H' pa = some (.tup (ps.map V.str)) ∧ ps.length ≤ 2 ∧ (∀ s ∈ ps, s ∈ ks) ∧ But p H9 H' ∧ Box H' p, ?_, ?_⟩
    · have here : ∃ (qd : Nat) (pa : Addr) (ps' : List Str), qd < m + 1 ∧ [some (V.ref p), some (.int 12), some (.int pl), some (.int ((m + 1 : Nat) : Int)), some (.ref kl), some (.int (sm : Nat)), some (.ref nl), some (.ref Dr), some (.int (i : Nat)), some (.str n), some (.int (kq : Nat)), some (.int (wi : Nat)), some (.ref t2), none, none] = [some (.ref p), some (.int 12), some (.int pl), some (.int ((m + 1 : Nat) : Int)), some (.ref kl), some (.int (sm : Nat)), some (.ref nl), some (.ref Dr), some (.int (i : Nat)), some (.str n), some (.int (qd : Nat)), some (.int (wi : Nat)), some (.ref pa), none, none] ∧ H14 pa = some (.tup (ps'.map V.str)) ∧ ps'.length ≤ 2 ∧ (∀ s ∈ ps', s ∈ ks) ∧ But p H9 H14 ∧ Box H14 p :=
        ⟨kq, t2, ps, by omega, rfl, h14, by omega, fun s hs => by
          obtain ⟨j, hj⟩ := List.mem_iff_getElem?.1 hs
          exact hpp j s hj, b914, hb14⟩
      walk_at "go"
      refine i_d (fun c1 => ?_) fun c1 => ?_
      · walk_at "go"
        refine i_d (fun c2 => ?_) fun c2 => ?_
        · walk_at "go"
          refine g_new fun t3 ht3 => ?_
          walk_at "go"
          exact ⟨i, t3, [], by omega, rfl, upd_same, Nat.zero_le _, fun s z => (nomatch z), b914.trans ((Ex.new ht3).but p), hb14.at_upd (hb14.ne ht3)⟩
        · walk_at "go"
          exact here
      · walk_at "go"
        exact here
    clear h14 hb14 b914 hpp hpl hacc hla hr2 e13 hb13 b912 hb12 l12 b12 b11 hb11 bx hbx
    rintro σ' H15 ⟨qd, pa, ps, hqd, rfl, hpa, hps, hpk, b15, hb15⟩
    have D15 := b15 _ _ nDp hD9
    have k15 := b15 _ _ nkp hk9
    have n15 := b15 _ _ nnp hn9
    have R15 : Rows H15 ras R := hR.keep (hb9.tk b15) fun a ha us hu => b15 _ _ (nrp a ha) hu
    obtain ⟨ra, r, us, era, er, hus, hrs⟩ := R15.get (q := qd) (by omega)
    have hram := List.mem_of_getElem? era
    walk_at "go"
    refine g_ixL D15 (atI_nat (j := qd) (by rw [List.getElem?_map, era]; rfl)) ?_
    refine g_tyL hus ?_
    walk_at "go"
    refine g_new fun t3 ht3 => ?_
    have e16 := Ex.new (o := .tup [.str n, .ref pa]) ht3
    have h16 := @upd_same H15 t3 (.tup [.str n, .ref pa])
    have hb16 := hb15.at_upd (o := .tup [.str n, .ref pa]) (hb15.ne ht3)
    revert e16 h16 hb16
    generalize upd H15 t3 (.tup [.str n, .ref pa]) = H16
    intro e16 h16 hb16
    have us16 := e16 _ _ hus
    have R16 : Rows H16 ras R := R15.keep e16.tk fun a ha us hu => e16 _ _ hu
    obtain ⟨us', hu', hrs16⟩ := R16.at_ qd ra r era er
    rw [us16] at hu'
    cases hu'
    have lus : us.length ≤ 12 := by
      have z1 : r.length ≤ (rowNames R).length := by
        have : ∀ (R : List (List Mk)) (q : Nat), R[q]? = some r → r.length ≤ (rowNames R).length := by
          intro R
          induction R with
          | nil => intro q h; simp at h
          | cons s R ih =>
            intro q h
            show _ ≤ (s.map Prod.fst ++ rowNames R).length
            rw [List.length_append, List.length_map]
            cases q with
            | zero => cases h; omega
            | succ q =>
              have := ih q h
              omega
        exact this R qd er
      rw [hRp.length_eq, List.length_take] at z1
      have z2 := hrs16.len
      rw [List.length_map] at z2
      omega
    walk_at "go"
    refine g_app us16 (Nat.lt_of_le_of_lt lus (by decide)) ?_
    have rep : Rep H16 (mkD (n, ps)) (.ref t3) := Rep.two h16 (Rep.s _) (by
      unfold partsD
      simp only [Rep]
      exact ⟨pa, _, rfl, e16 _ _ hpa, strsReps ps⟩)
    have R17 := R16.put era er us16 hrs16 rep
    have mko : MkOk ks (n, ps) := ⟨hnn', hps, hpk⟩
    have b17 : But p H (upd H16 ra (.lst (us ++ [V.ref t3]))) := ((b9.trans b15).trans (e16.but p)).at_new (hr0 ra hram)
    walk_at "go"
    refine ⟨⟨_, _, _, _, _, rfl⟩, b17, hb16.at_upd (nrp ra hram), ?_, ?_, ?_, _, R17, by rw [List.length_set]; exact hRl, fun r' hr' k hk' => ?_, ?_⟩
    · rw [upd_ne (nrk ra hram)]
      exact e16 _ _ k15
    · rw [upd_ne (nrn ra hram)]
      exact e16 _ _ n15
    · rw [upd_ne (Ne.symm (hrr ra hram).2.2)]
      exact e16 _ _ D15
    · rcases List.mem_or_eq_of_mem_set hr' with hr' | rfl
      · exact hRm r' hr' k hk'
      · rcases List.mem_append.1 hk' with hk' | hk'
        · exact hRm r (List.mem_of_getElem? er) k hk'
        · rw [List.mem_singleton.1 hk']
          exact mko
    · refine (rowNames_put R qd r (n, ps) er).trans ?_
      rw [List.take_add_one, en]
      exact List.Perm.append_right _ hRp
  · rintro σ H9 ⟨⟨o8, o9, o10, o11, o12, rfl⟩, b9, hb9, hk9, hn9, hD9, R, hR, hRl, hRm, hRp⟩
    rw [List.length_map, List.take_length] at hRp
    have wok : WoodOk (ks.zip R) := wood_of ⟨by omega, by omega⟩ hkn hkd (by omega) hRm hRp hnd (by omega)
    walk_at "go"
    refine ⟨kl, Dr, _, _, rfl, .inl ⟨sqL hk9, sqL hD9, fun D4 hD4 => ?_⟩⟩
    refine lc_mapE (walk_zip rfl) (fun j H v => ∃ k r, ks[j]? = some k ∧ R[j]? = some r ∧ Rep H (kindD (k, r)) v) (by rw [List.length_map]; omega) hD4 (fun j H H' v t ⟨k, r, a1, a2, a3⟩ => ⟨k, r, a1, a2, a3.tk t (kind_hard _)⟩) (fun H10 e => ⟨sqL (e _ _ hk9), sqL (e _ _ hD9)⟩) ?_ ?_
    · rintro j x H10 H11 P N hj e10 ⟨t, y, z, rfl, ht, rfl, ey, ez⟩ k
      replace ey : (ks.map V.str)[j]? = some y := ey
      replace ez : (ras.map V.ref)[j]? = some z := ez
      rw [List.getElem?_map] at ey ez
      cases ek : ks[j]? with
      | none => rw [ek] at ey; cases ey
      | some kn =>
      rw [ek] at ey
      cases ey
      cases er : ras[j]? with
      | none => rw [er] at ez; cases ez
      | some ra =>
      rw [er] at ez
      cases ez
      have jl : j < R.length := by have := (List.getElem?_eq_some_iff.1 er).1; omega
      obtain ⟨us, hus, hrs⟩ := hR.at_ j ra _ er (List.getElem?_eq_getElem jl)
      have e11 := Ex.new (o := .tup [.str kn, .ref ra]) ht
      refine g_tup2 upd_same ?_
      walk_at "go"
      refine ⟨rfl, ?_⟩
      walk_at "go"
      refine g_tupOf (e11 _ _ (e10 _ _ hus)) fun t2 ht2 => ?_
      walk_at "go"
      refine g_new fun t3 ht3 => ?_
      have e12 := (Ex.new (o := .tup us) ht2).trans (Ex.new (o := .tup [.str kn, .ref t2]) ht3)
      refine k _ _ (e11.trans e12) ⟨kn, R[j], ek, List.getElem?_eq_getElem jl, ?_⟩
      refine Rep.two upd_same (Rep.s _) ?_
      simp only [Rep]
      exact ⟨t2, us, rfl, Ex.new ht3 _ _ upd_same, hrs.tk (((e10.trans e11).trans e12).tk) (mks_hard _)⟩
    · intro H10 acc e10 hacc hla hr2
      have rz := zip_reps ks R acc (by omega) (by rw [hla, List.length_map, List.length_map]; omega) hr2
      walk_at "go"
      refine g_tupOf hacc fun t5 ht5 => ?_
      have e11 := e10.trans (Ex.new (o := .tup acc) ht5)
      refine q _ _ _ wok ?_ (b9.trans (e11.but p)) (hb9.ex e11)
      unfold woodD
      simp only [Rep]
      exact ⟨t5, acc, rfl, upd_same, rz.ex (Ex.new ht5)⟩

theorem ok_look_makers (T : Txt K mg) : FnOk P w K mg base (L2.CX P w) 4 T.a_look_makers T.d_look_makers ["wood", "kinds"] spLookMakers := by
  refine T.F_look_makers.okX sc_look_makers (fun vs H Q E h => ?_) (fun cdv A outer s H vs Q E hr h => ?_)
  · obtain ⟨_, _, _, _, rfl, _⟩ := h
    rfl
  obtain ⟨wd, v, dk, kk, rfl, rv, hk, hkk, ok, q⟩ := h
  refine ⟨_, (pss_cons (ps_set (i := 2) sc_look_makers.nd rfl (by first | exact Or.inl rfl | exact Or.inr rfl) pe_dnewK)
      (pss_cons (ps_for (passes_of rfl) rfl (ui_seq (uv 0)) (pg_tup rfl (pgs_cons (pg_name (i := 3) sc_look_makers.nd rfl (by first | exact Or.inl rfl | exact Or.inr rfl)) (pgs_cons (pg_name (i := 4) sc_look_makers.nd rfl (by first | exact Or.inl rfl | exact Or.inr rfl)) pgs_nil))) (pss_one (ps_for (passes_of rfl) rfl (ui_seq (uv 4)) (pg_tup rfl (pgs_cons (pg_name (i := 5) sc_look_makers.nd rfl (by first | exact Or.inl rfl | exact Or.inr rfl)) (pgs_cons (pg_name (i := 6) sc_look_makers.nd rfl (by first | exact Or.inl rfl | exact Or.inr rfl)) pgs_nil))) (pss_cons (ps_expr (pe_callD (ok_need T) (hr.mono (by decide)) rfl T.m_need T.F_need.kp T.b_need .nil (fun σ => passAt (takes_of rfl rfl rfl rfl) σ) (pa_cons (pe_callD (ok_is_name T) (hr.mono (by decide)) rfl T.m_is_name T.F_is_name.kp T.b_is_name .nil (fun σ => passAt (takes_of rfl rfl rfl rfl) σ) (pa_cons (uv 5) pa_nil)) (pa_cons pe_str (pa_cons (uv 5) pa_nil)))))
      (pss_cons (ps_expr (pe_callD (ok_need T) (hr.mono (by decide)) rfl T.m_need T.F_need.kp T.b_need .nil (fun σ => passAt (takes_of rfl rfl rfl rfl) σ) (pa_cons (pe_cmp (pc_dnotin (hu_of hr) (uv 5) (uv 2))) (pa_cons pe_str (pa_cons (uv 5) pa_nil)))))
      (pss_cons (ps_dput (hu_of hr) (uv 2) (uv 5) pe_bl rfl)
      (pss_cons (ps_expr (pe_callD (ok_need T) (hr.mono (by decide)) rfl T.m_need T.F_need.kp T.b_need .nil (fun σ => passAt (takes_of rfl rfl rfl rfl) σ) (pa_cons (pe_cmpR uo_le (pe_callB uk_len rfl T.z_len boot_len (pa_cons (uv 6) pa_nil)) (pe_con rfl T.m_MOST_PARTS) (nomark _)) (pa_cons pe_str (pa_cons (uv 5) pa_nil)))))
      (pss_one (ps_expr (pe_callD (ok_need T) (hr.mono (by decide)) rfl T.m_need T.F_need.kp T.b_need .nil (fun σ => passAt (takes_of rfl rfl rfl rfl) σ) (pa_cons (pe_callB (cr_all rfl) rfl T.z_all boot_all (pa_cons (pe_lc (own := [("part", 7)]) (g := gName 7) rfl sc_look_makers.nd (ui_seq (uv 6)) (blkOk_by (own := [("part", 7)]) (N := N_look_makers) (sc := defScope s_look_makers) (by decide +kernel)) (fun _ _ _ _ _ => (pg_name (i := 7) sc_look_makers.nd rfl (by first | exact Or.inl rfl | exact Or.inr rfl))) (fun _ _ _ _ _ => pts_nil) (fun _ _ _ _ _ => (pe_cmp (pc_din (hu_of hr) (uv 7) (uv 1))))) pa_nil)) (pa_cons pe_str (pa_cons (uv 5) pa_nil)))))))))))))
      (pss_one (ps_expr (pe_callD (ok_need T) (hr.mono (by decide)) rfl T.m_need T.F_need.kp T.bv_need1.choose_spec.2 T.bv_need1.choose_spec.1 (fun σ => passAt (takes_of rfl rfl rfl rfl) σ) (pa_cons (pe_cmpR uo_le (pe_callB uk_len rfl T.z_len boot_len (pa_cons (uv 2) pa_nil)) (pe_con rfl T.m_MOST_MAKERS) (nomark _)) (pa_cons pe_str pa_nil))))))), ?_⟩
  obtain ⟨a, xs, rfl, ha, rs⟩ := id rv.tupI
  have lx : xs.length = wd.length := by rw [rs.len, List.length_map]
  have pm := ok.many
  walk_at "go"
  refine fun d hd => ?_
  have nkd : dk ≠ d := fun z => by rw [z, hd] at hk; cases hk
  walk_at "go"
  refine g_seqTs ?_
  walk_at "go"
  refine ⟨_, rfl, ⟨xs, sqT (Ex.new hd _ _ ha)⟩, ?_⟩
  refine for_it walk_tup (fun i σ H2 => (∃ o3 o4 o5 o6 o7, σ = [some (.ref a), some (.ref dk), some (.ref d), o3, o4, o5, o6, o7]) ∧ Ex H H2 ∧ ∃ kvs, H2 d = some (.dK kvs) ∧ KeysIn kvs ((tabFrom 0 (wd.take i)).map fun e => e.2.1)) ⟨⟨none, none, none, none, none, rfl⟩, Ex.new hd, [], upd_same, Nat.le_refl _, fun s => ⟨fun z => (nomatch z), fun z => (nomatch z)⟩⟩ (fun i σ H2 _ h => sqT (h.2.1 _ _ ha)) ?_ ?_
  · rintro i x σ H2 H2' hi ⟨⟨o3, o4, o5, o6, o7, rfl⟩, e2, kvs, hkv, hT⟩ ⟨rfl, hx⟩
    obtain ⟨kd, b, c, ys, ek, rfl, hb, hc, ry⟩ := wood_at rs hx
    have ly : ys.length = kd.2.length := by rw [ry.len, List.length_map]
    refine g_tup2 (e2 _ _ hb) ?_
    walk_at "go"
    refine g_seqTs ?_
    walk_at "go"
    refine ⟨_, rfl, ⟨ys, sqT (e2 _ _ hc)⟩, ?_⟩
    have sp := tab_split wd 0 i kd ek
    rw [Nat.zero_add] at sp
    have ndd := ok.nd
    rw [sp] at ndd
    have nm2 := pm
    rw [sp, List.length_append, List.length_append, List.length_map] at nm2
    refine for_it walk_tup (fun j σ H3 => (∃ o5 o6 o7, σ = [some (.ref a), some (.ref dk), some (.ref d), some (.str kd.1), some (.ref c), o5, o6, o7]) ∧ Ex H H3 ∧ ∃ kvs, H3 d = some (.dK kvs) ∧ KeysIn kvs ((tabFrom 0 (wd.take i) ++ (kd.2.take j).map fun m => (i, m)).map fun e => e.2.1)) ⟨⟨_, _, _, rfl⟩, e2, kvs, hkv, by rw [List.take_zero, List.map_nil, List.append_nil]; exact hT⟩ (fun j σ H3 _ h => sqT (h.2.1 _ _ hc)) ?_ ?_
    · rintro j x σ H3 H3' hj ⟨⟨o5, o6, o7, rfl⟩, e5, kvs, hkv, hT⟩ ⟨rfl, hx⟩
      obtain ⟨m, b2, c2, em, rfl, hb2, hc2⟩ := mk_at ry hx
      have hm := ok.mkr kd (List.mem_of_getElem? ek) m (List.mem_of_getElem? em)
      have hnew : m.1 ∉ (tabFrom 0 (wd.take i) ++ (kd.2.take j).map fun m => (i, m)).map fun e => e.2.1 := by
        intro z
        have e8 : kd.2 = kd.2.take j ++ m :: kd.2.drop (j + 1) := by
          obtain ⟨h1, h2⟩ := List.getElem?_eq_some_iff.1 em
          rw [← h2, List.getElem_cons_drop, List.take_append_drop]
        rw [e8] at ndd
        simp only [List.map_append, List.map_cons, List.map_map] at ndd z
        have n1 := (List.nodup_append.1 ndd).1
        rw [← List.append_assoc] at n1
        exact (List.nodup_append.1 n1).2.2 _ z _ List.mem_cons_self rfl
      refine g_tup2 (e5 _ _ hb2) ?_
      walk_at "go"
      refine ⟨m.1, rfl, isName_len hm.1, fun H4 e6 => ?_⟩
      rw [hm.1]
      walk_at "go"
      refine ⟨_, _, rfl, ?_⟩
      walk_at "go"
      have hd4 := e6 _ _ hkv
      refine g_diS hd4 ?_
      rw [hT.none hnew]
      walk_at "go"
      refine ⟨_, _, rfl, ?_⟩
      walk_at "go"
      have hjl : j < kd.2.length := by omega
      have lT := hT.1
      rw [List.length_map, List.length_append, List.length_map, List.length_take] at lT
      refine g_dpS hd4 (by omega) ?_
      have e7 : Ex H (upd H4 d (.dK (putK kvs (.inr m.1) (.bl true)))) := (e5.trans e6).at_new hd
      have hk2 := hT.put (s := m.1) (v := .bl true)
      have d7 := @upd_same H4 d (.dK (putK kvs (.inr m.1) (.bl true)))
      have k7 := e7 _ _ hk
      revert e7 d7 k7
      generalize upd H4 d (.dK (putK kvs (.inr m.1) (.bl true))) = H7
      intro e7 d7 k7
      have hc7 : H7 c2 = some (.tup (m.2.map V.str)) := e7 _ _ hc2
      walk_at "go"
      refine ⟨_, _, by rw [decide_eq_true (show (((m.2.map V.str).length : Nat) : Int) ≤ 2 from by rw [List.length_map]; omega)]; rfl, ?_⟩
      walk_at "go"
      refine g_seqTs ?_
      walk_at "go"
      refine ⟨_, rfl, ⟨_, sqT hc7⟩, fun D hD => ?_⟩
      refine lc_mapE walk_tup (fun u _ v => v = .bl true) (by rw [List.length_map]; omega) hD (fun _ _ _ _ _ r => r) (fun H8 e => sqT (e _ _ hc7)) ?_ ?_
      · rintro u y H8 H9 P N hu e ⟨rfl, hy⟩ k
        rw [List.getElem?_map] at hy
        cases es : m.2[u]? with
        | none => rw [es] at hy; cases hy
        | some z =>
          rw [es] at hy
          cases hy
          walk_at "go"
          refine ⟨rfl, ?_⟩
          walk_at "go"
          refine g_diS (e _ _ k7) ?_
          rw [hkk z (hm.2.2 z (List.mem_of_getElem? es))]
          exact k _ _ (Ex.refl _) rfl
      · intro H8 acc e8 hacc hla hr2
        have ea : acc = (List.replicate acc.length true).map V.bl := by
          rw [List.map_replicate]
          exact List.eq_replicate_iff.2 ⟨rfl, fun v hv => by
            obtain ⟨n, hn⟩ := List.mem_iff_getElem?.1 hv
            exact hr2 n v hn⟩
        walk_at "go"
        refine g_all (ea ▸ hacc) ?_
        have eb : (List.replicate acc.length true).all id = true := by simp
        rw [eb]
        refine ⟨_, _, rfl, ?_⟩
        have ej : (tabFrom 0 (wd.take i) ++ (kd.2.take j).map fun m => (i, m)).map (fun e => e.2.1) ++ [m.1] = (tabFrom 0 (wd.take i) ++ (kd.2.take (j + 1)).map fun m => (i, m)).map fun e => e.2.1 := by
          rw [List.take_add_one, em]
          simp
        rw [ej] at hk2
        exact ⟨⟨_, _, _, rfl⟩, e7.trans e8, _, e8 _ _ d7, hk2⟩
    · rintro σ H3 ⟨⟨o5, o6, o7, rfl⟩, e5, kvs, hkv, hT⟩
      rw [ly, List.take_length] at hT
      have tt := tab_take wd 0 i kd ek
      rw [Nat.zero_add] at tt
      exact ⟨⟨_, _, _, _, _, rfl⟩, e5, kvs, hkv, by rw [tt]; exact hT⟩
  · rintro σ H2 ⟨⟨o3, o4, o5, o6, o7, rfl⟩, e2, kvs, hkv, hT⟩
    rw [lx, List.take_length] at hT
    have lT := hT.1
    rw [List.length_map] at lT
    walk_at "go"
    refine g_lenD hkv ?_
    walk_at "go"
    refine ⟨_, _, by rw [decide_eq_true (show ((kvs.length : Nat) : Int) ≤ 12 from by omega)]; rfl, ?_⟩
    walk_at "go"
    exact q _ e2

theorem ok_look_wood (T : Txt K mg) : FnOk P w K mg base (L2.CX P w) 5 T.a_look_wood T.d_look_wood ["wood"] spLookWood := by
  refine T.F_look_wood.okX sc_look_wood (fun vs H Q E h => ?_) (fun cdv A outer s H vs Q E hr h => ?_)
  · obtain ⟨_, _, rfl, _⟩ := h
    rfl
  obtain ⟨wd, v, rfl, rv, ok, q⟩ := h
  refine ⟨_, (pss_cons (ps_expr (pe_callD (ok_need T) (hr.mono (by decide)) rfl T.m_need T.F_need.kp T.bv_need1.choose_spec.2 T.bv_need1.choose_spec.1 (fun σ => passAt (takes_of rfl rfl rfl rfl) σ) (pa_cons (pe_chain uo_le uo_le pe_int (pe_callB uk_len rfl T.z_len boot_len (pa_cons (uv 0) pa_nil)) (pe_con rfl T.m_MOST_KINDS)) (pa_cons pe_str pa_nil))))
      (pss_cons (ps_set (i := 1) sc_look_wood.nd rfl (by first | exact Or.inl rfl | exact Or.inr rfl) (pe_callD (ok_kinds_by_name T) (hr.mono (by decide)) rfl T.m_kinds_by_name T.F_kinds_by_name.kp T.b_kinds_by_name .nil (fun σ => passAt (takes_of rfl rfl rfl rfl) σ) (pa_cons (pe_tup pa_nil) pa_nil)))
      (pss_cons (ps_for (passes_of rfl) rfl (ui_seq (uv 0)) (pg_tup rfl (pgs_cons (pg_name (i := 2) sc_look_wood.nd rfl (by first | exact Or.inl rfl | exact Or.inr rfl)) (pgs_cons (pg_name (i := 3) sc_look_wood.nd rfl (by first | exact Or.inl rfl | exact Or.inr rfl)) pgs_nil))) (pss_cons (ps_expr (pe_callD (ok_need T) (hr.mono (by decide)) rfl T.m_need T.F_need.kp T.b_need .nil (fun σ => passAt (takes_of rfl rfl rfl rfl) σ) (pa_cons (pe_callD (ok_is_name T) (hr.mono (by decide)) rfl T.m_is_name T.F_is_name.kp T.b_is_name .nil (fun σ => passAt (takes_of rfl rfl rfl rfl) σ) (pa_cons (uv 2) pa_nil)) (pa_cons pe_str (pa_cons (uv 2) pa_nil)))))
      (pss_cons (ps_expr (pe_callD (ok_need T) (hr.mono (by decide)) rfl T.m_need T.F_need.kp T.b_need .nil (fun σ => passAt (takes_of rfl rfl rfl rfl) σ) (pa_cons (pe_cmp (pc_dnotin (hu_of hr) (uv 2) (uv 1))) (pa_cons pe_str (pa_cons (uv 2) pa_nil)))))
      (pss_one (ps_expr (pe_dsetd (uv 1) (uv 2) (pe_callB uk_len rfl T.z_len boot_len (pa_cons (uv 1) pa_nil)) ⟨rfl, rfl, rfl, rfl⟩))))))
      (pss_cons (ps_expr (pe_callD (ok_look_makers T) (hr.mono (by decide)) rfl T.m_look_makers T.F_look_makers.kp T.b_look_makers .nil (fun σ => passAt (takes_of rfl rfl rfl rfl) σ) (pa_cons (uv 0) (pa_cons (uv 1) pa_nil))))
      (pss_one (ps_ret pe_bl)))))), ?_⟩
  obtain ⟨a, xs, rfl, ha, rs⟩ := id rv.tupI
  have lx : xs.length = wd.length := by rw [rs.len, List.length_map]
  have pk := ok.kinds
  walk_at "go"
  refine i_d (fun _ => ?_) fun c => absurd (show (1 : Int) ≤ ((xs.length : Nat) : Int) by omega) c
  walk_at "go"
  refine ⟨_, _, by rw [decide_eq_true (show ((xs.length : Nat) : Int) ≤ 4 from by omega)]; rfl, ?_⟩
  walk_at "go"
  refine g_new fun e0 he0 => ?_
  walk_at "go"
  refine ⟨[], _, rfl, by simp only [woodD, List.map, Rep, Reps]; exact ⟨e0, [], rfl, upd_same, rfl⟩, by decide, fun dk H1 hdk e1 hk => ?_⟩
  have e01 := (Ex.new (o := .tup []) he0).trans e1
  have hdk0 := (Ex.new (o := .tup []) he0).free hdk
  walk_at "go"
  refine g_seqTs ?_
  walk_at "go"
  refine ⟨_, rfl, ⟨xs, sqT (e01 _ _ ha)⟩, ?_⟩
  refine for_it walk_tup (fun i σ H2 => (∃ o2 o3, σ = [some (.ref a), some (.ref dk), o2, o3]) ∧ Ex H H2 ∧ ∃ kvs, H2 dk = some (.dK kvs) ∧ KeysIn kvs ((wd.take i).map Prod.fst)) ⟨⟨none, none, rfl⟩, e01, [], hk, Nat.le_refl _, fun s => ⟨fun z => (nomatch z), fun z => (nomatch z)⟩⟩ (fun i σ H2 _ h => sqT (h.2.1 _ _ ha)) ?_ ?_
  · rintro i x σ H2 H2' hi ⟨⟨o2, o3, rfl⟩, e2, kvs, hkv, hK⟩ ⟨rfl, hx⟩
    obtain ⟨kd, b, c, ys, ek, rfl, hb, hc, _⟩ := wood_at rs hx
    have hn := ok.name kd (List.mem_of_getElem? ek)
    have hnew : kd.1 ∉ (wd.take i).map Prod.fst := by
      have := nodup_at ok.knd (i := i) (x := kd.1) (by rw [List.getElem?_map, ek]; rfl)
      rwa [← List.map_take] at this
    refine g_tup2 (e2 _ _ hb) ?_
    walk_at "go"
    refine ⟨kd.1, rfl, isName_len hn, fun H3 e3 => ?_⟩
    rw [hn]
    walk_at "go"
    refine ⟨_, _, rfl, ?_⟩
    walk_at "go"
    have k3 := e3 _ _ hkv
    refine g_diS k3 ?_
    rw [hK.none hnew]
    walk_at "go"
    refine ⟨_, _, rfl, ?_⟩
    walk_at "go"
    refine ⟨_, rfl, isD_of k3, ?_⟩
    walk_at "go"
    refine g_lenD k3 ?_
    have lk := hK.1
    rw [List.length_map, List.length_take] at lk
    refine ⟨kvs, .inr kd.1, k3, rfl, Nat.lt_of_le_of_lt (by omega : kvs.length ≤ 10) (by decide), fun v hv => ?_, fun _ => ?_⟩
    · rw [hK.none hnew] at hv
      cases hv
    · refine ⟨⟨_, _, rfl⟩, (e2.trans e3).at_new hdk0, _, upd_same, ?_⟩
      have z := hK.put (s := kd.1) (v := .int (kvs.length : Nat))
      have ez : (wd.take i).map Prod.fst ++ [kd.1] = (wd.take (i + 1)).map Prod.fst := by
        rw [List.take_add_one, ek]
        simp
      rw [ez] at z
      exact z
  · rintro σ H2 ⟨⟨o2, o3, rfl⟩, e2, kvs, hkv, hK⟩
    rw [lx, List.take_length] at hK
    walk_at "go"
    refine ⟨wd, _, dk, kvs, rfl, rv.ex e2, hkv, fun s hs => (hK.2 s).2 hs, ok, fun H3 e3 => ?_⟩
    walk_at "go"
    exact q _ (e2.trans e3)

theorem ok_law_right (T : Txt K mg) : FnOk P w K mg base (L2.CX P w) 6 T.a_law_right T.d_law_right ["_law_wood_here"] spRightW := by
  refine T.F_law_right.okX sc_law_right (fun vs H Q E h => ?_) (fun cdv A outer s H vs Q E hr h => ?_)
  · obtain ⟨_, _, rfl, _⟩ := h
    rfl
  obtain ⟨wd, v, rfl, rv, ok, q⟩ := h
  refine ⟨_, (pss_cons (ps_set (i := 1) sc_law_right.nd rfl (by first | exact Or.inl rfl | exact Or.inr rfl) (pe_callD (ok_law_makers T) (hr.mono (by decide)) rfl T.m_law_makers T.F_law_makers.kp T.b_law_makers .nil (fun σ => passAt (takes_of rfl rfl rfl rfl) σ) (pa_cons (uv 0) pa_nil)))
      (pss_cons (ps_set (i := 2) sc_law_right.nd rfl (by first | exact Or.inl rfl | exact Or.inr rfl) (pe_callD (ok_makers_of T) (hr.mono (by decide)) rfl T.m_makers_of T.F_makers_of.kp T.b_makers_of .nil (fun σ => passAt (takes_of rfl rfl rfl rfl) σ) (pa_cons (uv 0) pa_nil)))
      (pss_cons (ps_if (PW.pt (pw_or (pt_cmpR op_isnot_bl (pe_callD (ok_look_wood T) (hr.mono (by decide)) rfl T.m_look_wood T.F_look_wood.kp T.b_look_wood .nil (fun σ => passAt (takes_of rfl rfl rfl rfl) σ) (pa_cons (uv 0) pa_nil)) pe_bl (nomark _)) (pw_or (pt_not (ut (pe_callB uk_is rfl T.z_isinstance boot_isinstance (pa_cons (uv 2) (pa_cons (pe_bltn (v := .ty "list") rfl T.z_list boot_list rfl) pa_nil))))) (pw_or1 (pt_cmpR (op_neD hr.units) (uv 2) (pe_lc (own := [("_law_name", 3), ("_law_kind", 4), ("_law_parts", 5)]) (g := gTup K 3 (gCons (gName 3) (gCons (gName 4) (gCons (gName 5) gNil)))) rfl sc_law_right.nd (ui_seq (uv 1)) (blkOk_by (own := [("_law_name", 3), ("_law_kind", 4), ("_law_parts", 5)]) (N := N_law_right) (sc := defScope s_law_right) (by decide +kernel)) (fun _ _ _ _ _ => (pg_tup rfl (pgs_cons (pg_name (i := 3) sc_law_right.nd rfl (by first | exact Or.inl rfl | exact Or.inr rfl)) (pgs_cons (pg_name (i := 4) sc_law_right.nd rfl (by first | exact Or.inl rfl | exact Or.inr rfl)) (pgs_cons (pg_name (i := 5) sc_law_right.nd rfl (by first | exact Or.inl rfl | exact Or.inr rfl)) pgs_nil))))) (fun _ _ _ _ _ => pts_nil) (fun _ _ _ _ _ => (uv 3))) (nomark _)))))) (pss_one (ps_ret pe_bl)) pss_nil)
      (pss_cons (ps_expr (pe_bm0 PySem.F.plainAttrs_list PySem.F.slot_list_clear PySem.F.type_list_clear mt_clear (uv 2)))
      (pss_cons (ps_for (passes_of rfl) rfl (ui_seq (uv 1)) (pg_tup rfl (pgs_cons (pg_name (i := 3) sc_law_right.nd rfl (by first | exact Or.inl rfl | exact Or.inr rfl)) (pgs_cons (pg_name (i := 4) sc_law_right.nd rfl (by first | exact Or.inl rfl | exact Or.inr rfl)) (pgs_cons (pg_name (i := 5) sc_law_right.nd rfl (by first | exact Or.inl rfl | exact Or.inr rfl)) pgs_nil)))) (pss_one (ps_if (PW.pt (pw_or (pt_not (ut (pe_callD (ok_law_alike T) (hr.mono (by decide)) rfl T.m_law_alike T.F_law_alike.kp T.b_law_alike .nil (fun σ => passAt (takes_of rfl rfl rfl rfl) σ) (pa_cons (pe_callD (ok_kind_of T) (hr.mono (by decide)) rfl T.m_kind_of T.F_kind_of.kp T.b_kind_of .nil (fun σ => passAt (takes_of rfl rfl rfl rfl) σ) (pa_cons (uv 0) (pa_cons (uv 3) pa_nil))) (pa_cons (uv 4) pa_nil))))) (pw_or1 (pt_not (ut (pe_callD (ok_law_alike T) (hr.mono (by decide)) rfl T.m_law_alike T.F_law_alike.kp T.b_law_alike .nil (fun σ => passAt (takes_of rfl rfl rfl rfl) σ) (pa_cons (pe_callD (ok_parts_of T) (hr.mono (by decide)) rfl T.m_parts_of T.F_parts_of.kp T.b_parts_of .nil (fun σ => passAt (takes_of rfl rfl rfl rfl) σ) (pa_cons (uv 0) (pa_cons (uv 3) pa_nil))) (pa_cons (uv 5) pa_nil)))))))) (pss_one (ps_ret pe_bl)) pss_nil)))
      (pss_one (ps_ret (pe_callB (cr_all rfl) rfl T.z_all boot_all (pa_cons (pe_lc (own := [("_law_name", 3)]) (g := gName 3) rfl sc_law_right.nd (ui_seq (pe_op uo_add (pe_callD (ok_makers_of T) (hr.mono (by decide)) rfl T.m_makers_of T.F_makers_of.kp T.b_makers_of .nil (fun σ => passAt (takes_of rfl rfl rfl rfl) σ) (pa_cons (uv 0) pa_nil)) (pe_lc (own := [("_law_name", 3), ("_law_makers_here", 6)]) (g := gTup K 2 (gCons (gName 3) (gCons (gName 6) gNil))) rfl sc_law_right.nd (ui_seq (uv 0)) (blkOk_by (own := [("_law_name", 3), ("_law_makers_here", 6)]) (N := N_law_right) (sc := defScope s_law_right) (by decide +kernel)) (fun _ _ _ _ _ => (pg_tup rfl (pgs_cons (pg_name (i := 3) sc_law_right.nd rfl (by first | exact Or.inl rfl | exact Or.inr rfl)) (pgs_cons (pg_name (i := 6) sc_law_right.nd rfl (by first | exact Or.inl rfl | exact Or.inr rfl)) pgs_nil)))) (fun _ _ _ _ _ => pts_nil) (fun _ _ _ _ _ => (uv 3))))) (blkOk_by (own := [("_law_name", 3)]) (N := N_law_right) (sc := defScope s_law_right) (by decide +kernel)) (fun _ _ _ _ _ => (pg_name (i := 3) sc_law_right.nd rfl (by first | exact Or.inl rfl | exact Or.inr rfl))) (fun _ _ _ _ _ => pts_nil) (fun _ _ _ _ _ => (pe_cmpR op_is_bl (pe_callD (ok_is_name T) (hr.mono (by decide)) rfl T.m_is_name T.F_is_name.kp T.b_is_name .nil (fun _ => passAt0) (pa_cons (uv 3) pa_nil)) pe_bl (nomark _)))) pa_nil))))))))), ?_⟩
  have pk := ok.kinds
  have pm := ok.many
  have pn := ok.names
  obtain ⟨a, xs, ev, ha, rs⟩ := id rv.tupI
  subst ev
  have lx : xs.length = wd.length := by rw [rs.len, List.length_map]
  walk_at "go"
  refine ⟨wd, _, rfl, rv, ok, fun ld H1 us e1 hus hD => ?_⟩
  walk_at "go"
  refine ⟨wd, _, rfl, rv.ex e1, by omega, ok.row, fun l H2 hl0 e2 hl => ?_⟩
  walk_at "go"
  refine ⟨wd, _, rfl, rv.ex (e1.trans e2), ok, fun H3 e3 => ?_⟩
  walk_at "go"
  refine ⟨true, true, rfl, rfl, ?_⟩
  rw [decide_eq_true rfl]
  walk_at "go"
  have l3 := e3 _ _ hl
  refine g_is (Ty.lst l3) (b := true) (by decide +kernel) ?_
  walk_at "go"
  have us3 := (e2.trans e3) _ _ hus
  have D3 := hD.tk (e2.trans e3).tk
  have lu := hD.1
  refine g_seqLs ?_
  walk_at "go"
  refine ⟨_, rfl, ⟨us, sqL us3⟩, fun Dx hDn => ?_⟩
  refine lc_mapE walk_list (fun j _ v => ∃ s, v = V.str s ∧ ∃ e, (tabFrom 0 wd)[j]? = some e ∧ s = e.2.1) (by omega) hDn (fun _ _ _ _ _ r => r) (fun H4 e => sqL (e _ _ us3)) ?_ ?_
  · rintro j y H4 H5 P N hj e4 ⟨rfl, hy⟩ k
    obtain ⟨e, he, p, t, rfl, hp, ht⟩ := D3.2 j y hy
    refine g_tup3 (e4 _ _ hp) ?_
    refine ⟨rfl, ?_⟩
    walk_at "go"
    exact k _ _ (Ex.refl _) ⟨_, rfl, e, he, rfl⟩
  intro H4 acc e4 hacc hla hr2
  obtain ⟨ss, rfl, hss, hsp⟩ := acc_strs hla hr2
  have es : ss = mkNames wd := by
    rw [← tab_names wd 0]
    refine List.ext_getElem? fun j => ?_
    cases c : ss[j]? with
    | none =>
      have := List.getElem?_eq_none_iff.1 c
      symm
      rw [List.getElem?_eq_none_iff, List.length_map]
      omega
    | some s =>
      obtain ⟨e, he, rfl⟩ := hsp j s c
      rw [List.getElem?_map, he]
      rfl
  subst es
  have lowm : ∀ s ∈ mkNames wd, ∀ c ∈ s.cps.toList, c < 0x110000 := fun s hs => low_ok (isName_low (ok.low s hs))
  refine g_neSs (e4 _ _ l3) hacc lowm lowm ?_
  rw [decide_eq_true rfl]
  walk_at "go"
  have l4 := e4 _ _ l3
  refine g_tyL l4 ?_
  refine g_clear l4 ?_
  have e24 := e2.trans (e3.trans e4)
  have eF : Ex H1 (upd H4 l (.lst [])) := e24.at_new hl0
  revert eF
  generalize upd H4 l (.lst []) = H5
  intro eF
  have us5 := eF _ _ hus
  have D5 := hD.tk eF.tk
  walk_at "go"
  refine g_seqLs ?_
  walk_at "go"
  refine ⟨_, rfl, ⟨us, sqL us5⟩, ?_⟩
  refine for_it walk_list (fun i σ H6 => (∃ o3 o4 o5, σ = [some (.ref a), some (.ref ld), some (.ref l), o3, o4, o5, none]) ∧ Ex H5 H6) ⟨⟨_, _, _, rfl⟩, Ex.refl _⟩ (fun i σ H6 _ h => sqL (h.2 _ _ us5)) ?_ ?_
  · rintro i x σ H6 H6' hi ⟨⟨o3, o4, o5, rfl⟩, e6⟩ ⟨rfl, hx⟩
    obtain ⟨e, he, p, t, rfl, hp, ht⟩ := D5.2 i x hx
    have hem := List.mem_of_getElem? he
    have e16 := e1.trans (eF.trans e6)
    refine g_tup3 (e6 _ _ hp) ?_
    walk_at "go"
    refine ⟨wd, _, e, rfl, rv.ex e16, ok.pre, hem, fun H7 e7 => ?_⟩
    walk_at "go"
    refine ⟨.int (e.1 : Nat), _, _, rfl, Rep.i _, Rep.i _, rfl, by simp only [D.size]; decide, fun H8 e8 => ?_⟩
    walk_at "go"
    refine ⟨wd, _, e, rfl, rv.ex (e16.trans (e7.trans e8)), ok.pre, hem, fun t2 H9 e9 ht2 => ?_⟩
    walk_at "go"
    have t9 := (e6.trans (e7.trans (e8.trans e9))) _ _ ht
    rw [map_kno] at t9 ht2
    have lp : e.2.2.length ≤ 2 := by
      have z : ∀ (w : Wd) (n : Nat), e ∈ tabFrom n w → ∃ k ∈ w, e.2 ∈ k.2 := by
        intro w
        induction w with
        | nil => intro n h; cases h
        | cons k w ih =>
          intro n h
          rcases List.mem_append.1 (show e ∈ k.2.map (fun m => (n, m)) ++ tabFrom (n + 1) w from h) with h | h
          · obtain ⟨m, hm, rfl⟩ := List.mem_map.1 h
            exact ⟨k, List.mem_cons_self, hm⟩
          · obtain ⟨k', a1, a2⟩ := ih _ h
            exact ⟨k', List.mem_cons_of_mem _ a1, a2⟩
      obtain ⟨k, hk, hm⟩ := z wd 0 hem
      exact (ok.mkr k hk e.2 hm).2.1
    refine ⟨.tup ((e.2.2.map fun s => kno wd s).map D.int), _, _, rfl, Rep.ints ht2, Rep.ints t9, by simp only [D.hard]; exact ints_hard _, by simp only [D.size]; rw [Bk.ints_size, List.length_map]; omega, fun H10 e10 => ?_⟩
    walk_at "go"
    exact ⟨⟨_, _, _, rfl⟩, e6.trans (e7.trans (e8.trans (e9.trans e10)))⟩
  · rintro σ H6 ⟨⟨o3, o4, o5, rfl⟩, e6⟩
    have e16 := e1.trans (eF.trans e6)
    walk_at "go"
    refine g_seqLs ?_
    walk_at "go"
    refine ⟨wd, _, rfl, rv.ex e16, by omega, ok.row, fun l2 H7 hl2 e7 hl2' => ?_⟩
    walk_at "go"
    refine g_seqTs ?_
    walk_at "go"
    have e17 := e16.trans e7
    refine ⟨_, rfl, ⟨xs, sqT (e17 _ _ ha)⟩, fun D3 hD3 => ?_⟩
    refine lc_mapE walk_tup (fun j _ v => ∃ s, v = V.str s ∧ isName s = true) (by omega) hD3 (fun _ _ _ _ _ r => r) (fun H8 e => sqT (e _ _ (e17 _ _ ha))) ?_ ?_
    · rintro j y H8 H9 P N hj e8 ⟨rfl, hy⟩ k
      obtain ⟨kd, b, c, ys, ek, rfl, hb, hc, _⟩ := wood_at rs hy
      refine g_tup2 (e8 _ _ (e17 _ _ hb)) ?_
      walk_at "go"
      refine ⟨rfl, ?_⟩
      walk_at "go"
      exact k _ _ (Ex.refl _) ⟨_, rfl, ok.name kd (List.mem_of_getElem? ek)⟩
    intro H8 acc e8 hacc hla hr3
    obtain ⟨ss, rfl, hss, hsp⟩ := acc_strs hla hr3
    refine g_catL (e8 _ _ hl2') hacc (by rw [List.length_map, List.length_map]; omega) fun l3 hl3 => ?_
    have e19 := e8.trans (Ex.new (o := .lst ((mkNames wd).map V.str ++ ss.map V.str)) hl3)
    have al : ∀ v ∈ (mkNames wd).map V.str ++ ss.map V.str, ∃ s, v = V.str s ∧ isName s = true := fun v hv => by
      rcases List.mem_append.1 hv with hv | hv
      · obtain ⟨s, hs, rfl⟩ := List.mem_map.1 hv
        exact ⟨s, rfl, ok.low s hs⟩
      · obtain ⟨s, hs, rfl⟩ := List.mem_map.1 hv
        obtain ⟨j, hj⟩ := List.mem_iff_getElem?.1 hs
        exact ⟨s, rfl, hsp j s hj⟩
    have ll : ((mkNames wd).map V.str ++ ss.map V.str).length ≤ 1000 := by rw [List.length_append, List.length_map, List.length_map]; omega
    have hl9 := @upd_same H8 l3 (.lst ((mkNames wd).map V.str ++ ss.map V.str))
    revert e19 hl9
    generalize upd H8 l3 (.lst ((mkNames wd).map V.str ++ ss.map V.str)) = H9
    generalize (mkNames wd).map V.str ++ ss.map V.str = zs at al ll
    intro e19 hl9
    refine ⟨_, rfl, ⟨zs, sqL hl9⟩, fun D4 hD4 => ?_⟩
    refine lc_mapE walk_list (fun _ _ v => v = .bl true) (by omega) hD4 (fun _ _ _ _ _ r => r) (fun H10 e => sqL (e _ _ hl9)) ?_ ?_
    · rintro j y H10 H11 P N hj e10 ⟨rfl, hy⟩ k
      obtain ⟨s, rfl, hs⟩ := al y (List.mem_of_getElem? hy)
      walk_at "go"
      refine ⟨rfl, ?_⟩
      walk_at "go"
      refine ⟨s, rfl, isName_len hs, fun H12 e12 => ?_⟩
      rw [hs]
      walk_at "go"
      refine ⟨true, true, rfl, rfl, ?_⟩
      exact k _ _ e12 (by rw [decide_eq_true rfl])
    · intro H10 acc2 e10 hacc2 hla2 hr4
      have ea : acc2 = (List.replicate acc2.length true).map V.bl := by
        rw [List.map_replicate]
        exact List.eq_replicate_iff.2 ⟨rfl, fun v hv => by
          obtain ⟨n, hn⟩ := List.mem_iff_getElem?.1 hv
          exact hr4 n v hn⟩
      walk_at "go"
      refine g_all (ea ▸ hacc2) ?_
      have eb : (List.replicate acc2.length true).all id = true := by simp
      rw [eb]
      exact q _ (e17.trans (e19.trans e10))

theorem ok_law (T : Txt K mg) : FnOk P w K mg base (L2.CX P w) 7 T.a_law T.d_law ["_law_script"] (spLaw K) := by
  refine T.F_law.okX sc_law (fun vs H Q E h => ?_) (fun cdv A outer s H vs Q E hr h => ?_)
  · obtain ⟨_, _, rfl, _⟩ := h
    rfl
  obtain ⟨scr, ns, rfl, hS, hl, q⟩ := h
  refine ⟨_, (pss_cons (ps_set (i := 1) sc_law.nd rfl (by first | exact Or.inl rfl | exact Or.inr rfl) (pe_lst pa_nil))
      (pss_cons (ps_for (passes_of rfl) rfl (pi_range1 rfl T.z_range (pa_cons (pe_callB (uk_max2 rfl) rfl T.z_max boot_max (pa_cons pe_int (pa_cons (pe_callB (uk_min2 rfl) rfl T.z_min boot_min (pa_cons pe_int (pa_cons (pe_callB uk_len rfl T.z_len boot_len (pa_cons (uv 0) pa_nil)) pa_nil))) pa_nil))) pa_nil)) (pg_name (i := 2) sc_law.nd rfl (by first | exact Or.inl rfl | exact Or.inr rfl)) (pss_cons (ps_set (i := 3) sc_law.nd rfl (by first | exact Or.inl rfl | exact Or.inr rfl) (pe_callD (ok_law_box T) (hr.mono (by decide)) rfl T.m_law_box T.F_law_box.kp T.b_law_box .nil (fun σ => passAt (takes_of rfl rfl rfl rfl) σ) (pa_cons (uv 0) (pa_cons (uv 2) pa_nil))))
      (pss_cons (ps_expr (pe_bm PySem.F.plainAttrs_list PySem.F.slot_list_append PySem.F.type_list_append mt_append (uv 1) (pa_cons (pe_callD (ok_law_wood T) (hr.mono (by decide)) rfl T.m_law_wood T.F_law_wood.kp T.b_law_wood .nil (fun σ => passAt (takes_of rfl rfl rfl rfl) σ) (pa_cons (uv 3) (pa_cons pe_int pa_nil))) pa_nil)))
      (pss_one (ps_for (passes_of rfl) rfl (pi_range1 rfl T.z_range (pa_cons pe_int pa_nil)) (pg_name (i := 4) sc_law.nd rfl (by first | exact Or.inl rfl | exact Or.inr rfl)) (pss_cons (ps_set (i := 5) sc_law.nd rfl (by first | exact Or.inl rfl | exact Or.inr rfl) (pe_callD (ok_law_any_text T) (hr.mono (by decide)) rfl T.m_law_any_text T.F_law_any_text.kp T.b_law_any_text .nil (fun σ => passAt (takes_of rfl rfl rfl rfl) σ) (pa_cons (uv 3) pa_nil)))
      (pss_one (ps_if (pt_not (ut (pe_callD (ok_law_alike T) (hr.mono (by decide)) rfl T.m_law_alike T.F_law_alike.kp T.b_law_alike .nil (fun σ => passAt (takes_of rfl rfl rfl rfl) σ) (pa_cons (pe_callD (ok_is_name T) (hr.mono (by decide)) rfl T.m_is_name T.F_is_name.kp T.b_is_name .nil (fun σ => passAt (takes_of rfl rfl rfl rfl) σ) (pa_cons (uv 5) pa_nil)) (pa_cons (pe_callD (ok_law_is_name T) (hr.mono (by decide)) rfl T.m_law_is_name T.F_law_is_name.kp T.b_law_is_name .nil (fun σ => passAt (takes_of rfl rfl rfl rfl) σ) (pa_cons (uv 5) pa_nil)) pa_nil))))) (pss_one (ps_ret pe_bl)) pss_nil))))))))
      (pss_one (ps_ret (pe_callB (cr_all rfl) rfl T.z_all boot_all (pa_cons (pe_lc (own := [("_law_wood_here", 6)]) (g := gName 6) rfl sc_law.nd (ui_seq (pe_op uo_add (uv 1) (pe_slice us_sl (uv 1) po_none (po_some pe_int)))) (blkOk_by (own := [("_law_wood_here", 6)]) (N := N_law) (sc := defScope s_law) (by decide +kernel)) (fun _ _ _ _ _ => (pg_name (i := 6) sc_law.nd rfl (by first | exact Or.inl rfl | exact Or.inr rfl))) (fun _ _ _ _ _ => pts_nil) (fun _ _ _ _ _ => (pe_callD (ok_law_right T) (hr.mono (by decide)) rfl T.m_law_right T.F_law_right.kp T.b_law_right .nil (fun _ => passAt0) (pa_cons (uv 6) pa_nil)))) pa_nil)))))), ?_⟩
  walk_at "go"
  refine g_new fun s hs => ?_
  have E0 := Ex.new (o := .lst []) hs
  have S0 := @upd_same H s (.lst [])
  revert E0 S0
  generalize upd H s (.lst []) = H0
  intro E0 S0
  walk_at "go"
  refine g_lenSq (E0.seqL hS) ?_
  walk_at "go"
  have hln : (ns.map V.int).length ≤ 63 := by rw [List.length_map]; exact hl
  have hn : ∃ n : Nat, max 2 (min 6 (((ns.map V.int).length : Nat) : Int)) = (n : Int) ∧ 2 ≤ n ∧ n ≤ 6 := ⟨(max 2 (min 6 (((ns.map V.int).length : Nat) : Int))).toNat, by omega, by omega, by omega⟩
  obtain ⟨n, en, n2, n6⟩ := hn
  rw [en]
  refine ⟨_, rfl, by omega, by omega, ?_⟩
  rw [Int.toNat_natCast]
  refine for_it walk_range (fun i σ H1 => (∃ o2 o3 o4 o5, σ = [some (.ref scr), some (.ref s), o2, o3, o4, o5, none]) ∧ Ex H H1 ∧ ∃ ts : List V, H1 s = some (.lst ts) ∧ ts.length = i ∧ ∀ v ∈ ts, ∃ w, WoodOk w ∧ Rep H1 (woodD w) v) ⟨⟨none, none, none, none, rfl⟩, E0, [], S0, rfl, fun v z => (nomatch z)⟩ (fun _ _ _ _ _ => trivial) ?_ ?_
  · rintro i x σ H1 H1' hi ⟨⟨o2, o3, o4, o5, rfl⟩, e1, ts, hts, hlen, hg⟩ ⟨rfl, rfl⟩
    walk_at "go"
    refine ⟨scr, ns, i, by show [V.ref scr, V.int (0 + (i : Int))] ++ [] = _; rw [Int.zero_add]; rfl, e1.seqL hS, hl, fun p H2 hp e2 hb2 => ?_⟩
    walk_at "go"
    have s2 := e2 _ _ hts
    refine g_tyL s2 ?_
    walk_at "go"
    refine ⟨p, rfl, hb2, fun wd v H3 ok rv b3 hb3 => ?_⟩
    have nps : s ≠ p := fun z => by rw [z, hp] at hts; cases hts
    have s3 := b3 _ _ nps s2
    have e13 : Ex _ H3 := Ex.of_but ((e2.but p).trans b3) hp
    walk_at "go"
    refine g_app s3 (Nat.lt_of_le_of_lt (by omega : ts.length ≤ 10) (by decide)) ?_
    have b4 : But s H3 (upd H3 s (.lst (ts ++ [v]))) := (But.refl _ _).upd
    have t4 := b4.tkl s3
    have hb4 := hb3.at_upd (o := .lst (ts ++ [v])) nps
    have s4 := @upd_same H3 s (.lst (ts ++ [v]))
    have e4 : Ex H (upd H3 s (.lst (ts ++ [v]))) := (e1.trans e13).at_new hs
    have wh : ∀ (w : Wd), (woodD w).hard = true := wood_hard
    have hg4 : ∀ u ∈ ts ++ [v], ∃ w, WoodOk w ∧ Rep (upd H3 s (.lst (ts ++ [v]))) (woodD w) u := fun u hu => by
      rcases List.mem_append.1 hu with hu | hu
      · obtain ⟨w', o', r'⟩ := hg u hu
        exact ⟨w', o', (r'.ex e13).tk t4 (wh _)⟩
      · rw [List.mem_singleton.1 hu]
        exact ⟨wd, ok, rv.tk t4 (wh _)⟩
    revert hb4 s4 e4 hg4
    generalize upd H3 s (.lst (ts ++ [v])) = H4
    intro hb4 s4 e4 hg4
    walk_at "go"
    refine ⟨_, rfl, by decide, by decide, ?_⟩
    refine for_it walk_range (fun j σ H5 => (∃ o4 o5, σ = [some (.ref scr), some (.ref s), some (.int (0 + (i : Nat))), some (.ref p), o4, o5, none]) ∧ But p H4 H5 ∧ Box H5 p) ⟨⟨_, _, rfl⟩, But.refl _ _, hb4⟩ (fun _ _ _ _ _ => trivial) ?_ ?_
    · rintro j x σ H5 H5' hj ⟨⟨o4, o5, rfl⟩, b5, hb5⟩ ⟨rfl, rfl⟩
      walk_at "go"
      refine ⟨p, rfl, hb5, fun z H6 hz b6 hb6 => ?_⟩
      walk_at "go"
      refine ⟨z, rfl, Nat.le_trans hz.1 (by decide), fun H7 e7 => ?_⟩
      walk_at "go"
      refine ⟨z, rfl, hz, fun H8 e8 => ?_⟩
      walk_at "go"
      refine ⟨.bl (isName z), _, _, rfl, Rep.b _, Rep.b _, rfl, by simp only [D.size]; decide, fun H9 e9 => ?_⟩
      walk_at "go"
      have e69 := e7.trans (e8.trans e9)
      exact ⟨⟨_, _, rfl⟩, (b5.trans b6).trans (e69.but p), hb6.ex e69⟩
    · rintro σ H5 ⟨⟨o4, o5, rfl⟩, b5, hb5⟩
      have hp0 : H p = none := by
        cases c : H p with
        | none => rfl
        | some o => rw [e1 _ _ c] at hp; cases hp
      have e5 : Ex H H5 := Ex.of_but ((e4.but p).trans b5) hp0
      refine ⟨⟨_, _, _, _, rfl⟩, e5, _, b5 _ _ nps s4, by rw [List.length_append, hlen]; rfl, fun u hu => ?_⟩
      obtain ⟨w', o', r'⟩ := hg4 u hu
      exact ⟨w', o', r'.tk (hb4.tk b5) (wh _)⟩
  · rintro σ H1 ⟨⟨o2, o3, o4, o5, rfl⟩, e1, ts, hts, hlen, hg⟩
    walk_at "go"
    refine g_seqLs ?_
    walk_at "go"
    refine g_slLU hts fun s2 hs2 => ?_
    walk_at "go"
    have k1 := cutV_length ts none (some 1)
    refine g_catL (Ex.new hs2 _ _ hts) upd_same (by omega) fun s3 hs3 => ?_
    have e3 := (Ex.new (o := .lst (cutV ts none (some 1))) hs2).trans (Ex.new (o := .lst (ts ++ cutV ts none (some 1))) hs3)
    have h3 := @upd_same (upd H1 s2 (.lst (cutV ts none (some 1)))) s3 (.lst (ts ++ cutV ts none (some 1)))
    have hg3 : ∀ u ∈ ts ++ cutV ts none (some 1), ∃ w, WoodOk w ∧ Rep (upd (upd H1 s2 (.lst (cutV ts none (some 1)))) s3 (.lst (ts ++ cutV ts none (some 1)))) (woodD w) u := fun u hu => by
      rcases List.mem_append.1 hu with hu | hu
      · obtain ⟨w', o', r'⟩ := hg u hu
        exact ⟨w', o', r'.ex e3⟩
      · obtain ⟨w', o', r'⟩ := hg u (cutV_mem hu)
        exact ⟨w', o', r'.ex e3⟩
    have l3 : (ts ++ cutV ts none (some 1)).length ≤ 100 := by rw [List.length_append]; omega
    revert e3 h3 hg3
    generalize upd (upd H1 s2 (.lst (cutV ts none (some 1)))) s3 (.lst (ts ++ cutV ts none (some 1))) = H3
    generalize ts ++ cutV ts none (some 1) = zs at l3
    intro e3 h3 hg3
    refine ⟨_, rfl, ⟨zs, sqL h3⟩, fun Dx hDx => ?_⟩
    refine lc_mapE walk_list (fun _ _ v => v = .bl true) (by omega) hDx (fun _ _ _ _ _ r => r) (fun H10 e => sqL (e _ _ h3)) ?_ ?_
    · rintro j y H10 H11 P N hj e10 ⟨rfl, hy⟩ k
      obtain ⟨w', o', r'⟩ := hg3 y (List.mem_of_getElem? hy)
      walk_at "go"
      refine ⟨rfl, ?_⟩
      walk_at "go"
      exact ⟨w', _, rfl, r'.ex e10, o', fun H12 e12 => k _ _ e12 rfl⟩
    · intro H10 acc2 e10 hacc2 hla2 hr4
      have ea : acc2 = (List.replicate acc2.length true).map V.bl := by
        rw [List.map_replicate]
        exact List.eq_replicate_iff.2 ⟨rfl, fun v hv => by
          obtain ⟨n, hn⟩ := List.mem_iff_getElem?.1 hv
          exact hr4 n v hn⟩
      walk_at "go"
      refine g_all (ea ▸ hacc2) ?_
      have eb : (List.replicate acc2.length true).all id = true := by simp
      rw [eb]
      exact q _

end
theorem mk_txt {K : PySem.W.Frag} {h : Heap} {mg : Str → Option Value} (X : K.In h) (G : h.Ns mainGlobals mg)
    {C_BoughError C_NoWood fI_NoWood f_is_name f_need dt_need f_look_wood f_look_makers f_kinds_by_name f_makers_of f_maker_table f_kind_of f_parts_of f_law_box f_law_take f_law_names f_law_wood f_law_makers f_law_is_name f_law_any_text f_law_alike f_law_right f_law : Addr}
    {ocI_NoWood kVI_NoWood dcI_NoWood pmI_NoWood cdI_NoWood ctI_NoWood oc_is_name kV_is_name dc_is_name pm_is_name cd_is_name ct_is_name oc_need kV_need dc_need pm_need cd_need ct_need do_need oc_look_wood kV_look_wood dc_look_wood pm_look_wood cd_look_wood ct_look_wood oc_look_makers kV_look_makers dc_look_makers pm_look_makers cd_look_makers ct_look_makers oc_kinds_by_name kV_kinds_by_name dc_kinds_by_name pm_kinds_by_name cd_kinds_by_name ct_kinds_by_name oc_makers_of kV_makers_of dc_makers_of pm_makers_of cd_makers_of ct_makers_of oc_maker_table kV_maker_table dc_maker_table pm_maker_table cd_maker_table ct_maker_table oc_kind_of kV_kind_of dc_kind_of pm_kind_of cd_kind_of ct_kind_of oc_parts_of kV_parts_of dc_parts_of pm_parts_of cd_parts_of ct_parts_of oc_law_box kV_law_box dc_law_box pm_law_box cd_law_box ct_law_box oc_law_take kV_law_take dc_law_take pm_law_take cd_law_take ct_law_take oc_law_names kV_law_names dc_law_names pm_law_names cd_law_names ct_law_names oc_law_wood kV_law_wood dc_law_wood pm_law_wood cd_law_wood ct_law_wood oc_law_makers kV_law_makers dc_law_makers pm_law_makers cd_law_makers ct_law_makers oc_law_is_name kV_law_is_name dc_law_is_name pm_law_is_name cd_law_is_name ct_law_is_name oc_law_any_text kV_law_any_text dc_law_any_text pm_law_any_text cd_law_any_text ct_law_any_text oc_law_alike kV_law_alike dc_law_alike pm_law_alike cd_law_alike ct_law_alike oc_law_right kV_law_right dc_law_right pm_law_right cd_law_right ct_law_right oc_law kV_law dc_law pm_law cd_law ct_law : Value}
    {odI_NoWood anI_NoWood od_is_name an_is_name od_need an_need dd_need od_look_wood an_look_wood od_look_makers an_look_makers od_kinds_by_name an_kinds_by_name od_makers_of an_makers_of od_maker_table an_maker_table od_kind_of an_kind_of od_parts_of an_parts_of od_law_box an_law_box od_law_take an_law_take od_law_names an_law_names od_law_wood an_law_wood od_law_makers an_law_makers od_law_is_name an_law_is_name od_law_any_text an_law_any_text od_law_alike an_law_alike od_law_right an_law_right od_law an_law : Option Addr}
    {slI_NoWood sl_is_name sl_need ds_need sl_look_wood sl_look_makers sl_kinds_by_name sl_makers_of sl_maker_table sl_kind_of sl_parts_of sl_law_box sl_law_take sl_law_names sl_law_wood sl_law_makers sl_law_is_name sl_law_any_text sl_law_alike sl_law_right sl_law : Array (Option Value)}
    {tk_LETTERS tk_MOST_LETTERS tk_MOST_KINDS tk_MOST_PARTS tk_MOST_MAKERS dk_need0 : Tok}
    {nm_BoughError qn_BoughError : Str} {Nn_BoughError : Addr} {bs_BoughError : List Value} {sn_BoughError : List Str} {sub_BoughError : List Value} {ab_BoughError : Bool} {col_BoughError : Option Bool} {dd_BoughError : Option Addr} {m0_BoughError m1_BoughError m2_BoughError m3_BoughError m5_BoughError : Option Value}
    {nm_NoWood qn_NoWood : Str} {Nn_NoWood : Addr} {bs_NoWood : List Value} {sn_NoWood : List Str} {sub_NoWood : List Value} {ab_NoWood : Bool} {col_NoWood : Option Bool} {dd_NoWood : Option Addr} {m0_NoWood m1_NoWood m2_NoWood m3_NoWood m5_NoWood : Option Value}
    {dn_need : Nat}
    (ac_BoughError : PySem.W.nsIn K mainGlobals "BoughError" = some (some (.ref C_BoughError)))
    (xl_BoughError : K.lookup C_BoughError = some (excClassObj nm_BoughError qn_BoughError C_BoughError Nn_BoughError bs_BoughError [.type "ValueError", .type "Exception", .type "BaseException", .type "object"] true sn_BoughError sub_BoughError ab_BoughError col_BoughError dd_BoughError m0_BoughError m1_BoughError m2_BoughError m3_BoughError m5_BoughError "ValueError.__new__"))
    (xe_BoughError : PySem.W.subIn K (.ref C_BoughError) (.type "BaseException") = some true)
    (xt_BoughError : PySem.W.typeIn K (.ref C_BoughError) = some (.type "type"))
    (xk_BoughError : PySem.W.keepIn K (.ref C_BoughError) = true)
    (xi_BoughError : PySem.W.isClsIn K C_BoughError = true)
    (xs_BoughError : PySem.W.subIn K (.ref C_BoughError) (.ref C_BoughError) = some true)
    (g1_BoughError : PySem.W.findIn K (.ref C_BoughError) "__getattribute__" = some (some (.builtin "BaseException.__getattribute__")))
    (g2_BoughError : PySem.W.findIn K (.ref C_BoughError) "__getattr__" = some none)
    (g3_BoughError : PySem.W.hasDictIn K C_BoughError = true)
    (g4_BoughError : PySem.W.findIn K (.ref C_BoughError) "__class__" = some (some (.builtin "object.__class__")))
    (g5_BoughError : PySem.W.specialIn K (.builtin "object.__class__") "__get__" = some (some (.builtin "getset_descriptor.__get__")))
    (g6_BoughError : PySem.W.takesIn K (.builtin "object.__class__") = some true)
    (g7_BoughError : PySem.W.mroIn K C_BoughError (.type "object") = some true)
    (h1_BoughError : PySem.W.specialIn K (.ref C_BoughError) "__getattribute__" = some (some (.builtin "type.__getattribute__")))
    (h2_BoughError : PySem.W.readsIn K C_BoughError (.type "type") = true)
    (h3_BoughError : PySem.W.findCls K (.ref C_BoughError) (.type "type") "__init__" = some (.val (.builtin "ValueError.__init__")))
    (ac_NoWood : PySem.W.nsIn K mainGlobals "NoWood" = some (some (.ref C_NoWood)))
    (xl_NoWood : K.lookup C_NoWood = some (excClassObj nm_NoWood qn_NoWood C_NoWood Nn_NoWood bs_NoWood [.ref C_BoughError, .type "ValueError", .type "Exception", .type "BaseException", .type "object"] true sn_NoWood sub_NoWood ab_NoWood col_NoWood dd_NoWood m0_NoWood m1_NoWood m2_NoWood m3_NoWood m5_NoWood "ValueError.__new__"))
    (xe_NoWood : PySem.W.subIn K (.ref C_NoWood) (.type "BaseException") = some true)
    (xt_NoWood : PySem.W.typeIn K (.ref C_NoWood) = some (.type "type"))
    (xk_NoWood : PySem.W.keepIn K (.ref C_NoWood) = true)
    (xi_NoWood : PySem.W.isClsIn K C_NoWood = true)
    (xs_NoWood : PySem.W.subIn K (.ref C_NoWood) (.ref C_NoWood) = some true)
    (g1_NoWood : PySem.W.findIn K (.ref C_NoWood) "__getattribute__" = some (some (.builtin "BaseException.__getattribute__")))
    (g2_NoWood : PySem.W.findIn K (.ref C_NoWood) "__getattr__" = some none)
    (g3_NoWood : PySem.W.hasDictIn K C_NoWood = true)
    (g4_NoWood : PySem.W.findIn K (.ref C_NoWood) "__class__" = some (some (.builtin "object.__class__")))
    (g5_NoWood : PySem.W.specialIn K (.builtin "object.__class__") "__get__" = some (some (.builtin "getset_descriptor.__get__")))
    (g6_NoWood : PySem.W.takesIn K (.builtin "object.__class__") = some true)
    (g7_NoWood : PySem.W.mroIn K C_NoWood (.type "object") = some true)
    (iI_NoWood : PySem.W.findIn K (.ref C_NoWood) "__init__" = some (some (.ref fI_NoWood)))
    (tI_NoWood : PySem.W.typeIn K (.ref fI_NoWood) = some (.type "function"))
    (lI_NoWood : K.lookup fI_NoWood = some ⟨ocI_NoWood, odI_NoWood, .func (PySem.W.fnOf "__init__" "NoWood.__init__" (defArgs sI_NoWood) (defBody sI_NoWood) (defScope sI_NoWood) .none kVI_NoWood dcI_NoWood pmI_NoWood anI_NoWood cdI_NoWood ctI_NoWood), slI_NoWood⟩)
    (cI_NoWood : PySem.W.codeIn K cdI_NoWood "NoWood.__init__" = true)
    (kI_NoWood : PySem.W.keepIn K (.ref fI_NoWood) = true)
    (sa_NoWood : PySem.W.findIn K (.ref C_NoWood) "__setattr__" = some (some (.builtin "object.__setattr__")))
    (nf_NoWood_word : PySem.W.findIn K (.ref C_NoWood) "word" = some none)
    (nf_NoWood_name : PySem.W.findIn K (.ref C_NoWood) "name" = some none)
    (vb_ValueError : PySem.W.findCls K (.type "ValueError") (.type "type") "__init__" = some (.val (.builtin "ValueError.__init__")))
    (mc_LETTERS : PySem.W.nsIn K mainGlobals "LETTERS" = some (some (.str "abcdefghijklmnopqrstuvwxyz" tk_LETTERS)))
    (mc_MOST_LETTERS : PySem.W.nsIn K mainGlobals "MOST_LETTERS" = some (some (.int 6 tk_MOST_LETTERS)))
    (mc_MOST_KINDS : PySem.W.nsIn K mainGlobals "MOST_KINDS" = some (some (.int 4 tk_MOST_KINDS)))
    (mc_MOST_PARTS : PySem.W.nsIn K mainGlobals "MOST_PARTS" = some (some (.int 2 tk_MOST_PARTS)))
    (mc_MOST_MAKERS : PySem.W.nsIn K mainGlobals "MOST_MAKERS" = some (some (.int 12 tk_MOST_MAKERS)))
    (a_is_name : PySem.W.nsIn K mainGlobals "is_name" = some (some (.ref f_is_name)))
    (l_is_name : K.lookup f_is_name = some ⟨oc_is_name, od_is_name, .func (PySem.W.fnOf "is_name" "is_name" (defArgs s_is_name) (defBody s_is_name) (defScope s_is_name) .none kV_is_name dc_is_name pm_is_name an_is_name cd_is_name ct_is_name), sl_is_name⟩)
    (c_is_name : PySem.W.codeIn K cd_is_name "is_name" = true)
    (k_is_name : PySem.W.keepIn K (.ref f_is_name) = true)
    (a_need : PySem.W.nsIn K mainGlobals "need" = some (some (.ref f_need)))
    (l_need : K.lookup f_need = some ⟨oc_need, od_need, .func (PySem.W.fnOf "need" "need" (defArgs s_need) (defBody s_need) (defScope s_need) (.ref dt_need) kV_need dc_need pm_need an_need cd_need ct_need), sl_need⟩)
    (c_need : PySem.W.codeIn K cd_need "need" = true)
    (k_need : PySem.W.keepIn K (.ref f_need) = true)
    (t_need : K.lookup dt_need = some ⟨do_need, dd_need, .seq #[.str "" dk_need0] dn_need, ds_need⟩)
    (a_look_wood : PySem.W.nsIn K mainGlobals "look_wood" = some (some (.ref f_look_wood)))
    (l_look_wood : K.lookup f_look_wood = some ⟨oc_look_wood, od_look_wood, .func (PySem.W.fnOf "look_wood" "look_wood" (defArgs s_look_wood) (defBody s_look_wood) (defScope s_look_wood) .none kV_look_wood dc_look_wood pm_look_wood an_look_wood cd_look_wood ct_look_wood), sl_look_wood⟩)
    (c_look_wood : PySem.W.codeIn K cd_look_wood "look_wood" = true)
    (k_look_wood : PySem.W.keepIn K (.ref f_look_wood) = true)
    (a_look_makers : PySem.W.nsIn K mainGlobals "look_makers" = some (some (.ref f_look_makers)))
    (l_look_makers : K.lookup f_look_makers = some ⟨oc_look_makers, od_look_makers, .func (PySem.W.fnOf "look_makers" "look_makers" (defArgs s_look_makers) (defBody s_look_makers) (defScope s_look_makers) .none kV_look_makers dc_look_makers pm_look_makers an_look_makers cd_look_makers ct_look_makers), sl_look_makers⟩)
    (c_look_makers : PySem.W.codeIn K cd_look_makers "look_makers" = true)
    (k_look_makers : PySem.W.keepIn K (.ref f_look_makers) = true)
    (a_kinds_by_name : PySem.W.nsIn K mainGlobals "kinds_by_name" = some (some (.ref f_kinds_by_name)))
    (l_kinds_by_name : K.lookup f_kinds_by_name = some ⟨oc_kinds_by_name, od_kinds_by_name, .func (PySem.W.fnOf "kinds_by_name" "kinds_by_name" (defArgs s_kinds_by_name) (defBody s_kinds_by_name) (defScope s_kinds_by_name) .none kV_kinds_by_name dc_kinds_by_name pm_kinds_by_name an_kinds_by_name cd_kinds_by_name ct_kinds_by_name), sl_kinds_by_name⟩)
    (c_kinds_by_name : PySem.W.codeIn K cd_kinds_by_name "kinds_by_name" = true)
    (k_kinds_by_name : PySem.W.keepIn K (.ref f_kinds_by_name) = true)
    (a_makers_of : PySem.W.nsIn K mainGlobals "makers_of" = some (some (.ref f_makers_of)))
    (l_makers_of : K.lookup f_makers_of = some ⟨oc_makers_of, od_makers_of, .func (PySem.W.fnOf "makers_of" "makers_of" (defArgs s_makers_of) (defBody s_makers_of) (defScope s_makers_of) .none kV_makers_of dc_makers_of pm_makers_of an_makers_of cd_makers_of ct_makers_of), sl_makers_of⟩)
    (c_makers_of : PySem.W.codeIn K cd_makers_of "makers_of" = true)
    (k_makers_of : PySem.W.keepIn K (.ref f_makers_of) = true)
    (a_maker_table : PySem.W.nsIn K mainGlobals "maker_table" = some (some (.ref f_maker_table)))
    (l_maker_table : K.lookup f_maker_table = some ⟨oc_maker_table, od_maker_table, .func (PySem.W.fnOf "maker_table" "maker_table" (defArgs s_maker_table) (defBody s_maker_table) (defScope s_maker_table) .none kV_maker_table dc_maker_table pm_maker_table an_maker_table cd_maker_table ct_maker_table), sl_maker_table⟩)
    (c_maker_table : PySem.W.codeIn K cd_maker_table "maker_table" = true)
    (k_maker_table : PySem.W.keepIn K (.ref f_maker_table) = true)
    (a_kind_of : PySem.W.nsIn K mainGlobals "kind_of" = some (some (.ref f_kind_of)))
    (l_kind_of : K.lookup f_kind_of = some ⟨oc_kind_of, od_kind_of, .func (PySem.W.fnOf "kind_of" "kind_of" (defArgs s_kind_of) (defBody s_kind_of) (defScope s_kind_of) .none kV_kind_of dc_kind_of pm_kind_of an_kind_of cd_kind_of ct_kind_of), sl_kind_of⟩)
    (c_kind_of : PySem.W.codeIn K cd_kind_of "kind_of" = true)
    (k_kind_of : PySem.W.keepIn K (.ref f_kind_of) = true)
    (a_parts_of : PySem.W.nsIn K mainGlobals "parts_of" = some (some (.ref f_parts_of)))
    (l_parts_of : K.lookup f_parts_of = some ⟨oc_parts_of, od_parts_of, .func (PySem.W.fnOf "parts_of" "parts_of" (defArgs s_parts_of) (defBody s_parts_of) (defScope s_parts_of) .none kV_parts_of dc_parts_of pm_parts_of an_parts_of cd_parts_of ct_parts_of), sl_parts_of⟩)
    (c_parts_of : PySem.W.codeIn K cd_parts_of "parts_of" = true)
    (k_parts_of : PySem.W.keepIn K (.ref f_parts_of) = true)
    (a_law_box : PySem.W.nsIn K mainGlobals "_law_box" = some (some (.ref f_law_box)))
    (l_law_box : K.lookup f_law_box = some ⟨oc_law_box, od_law_box, .func (PySem.W.fnOf "_law_box" "_law_box" (defArgs s_law_box) (defBody s_law_box) (defScope s_law_box) .none kV_law_box dc_law_box pm_law_box an_law_box cd_law_box ct_law_box), sl_law_box⟩)
    (c_law_box : PySem.W.codeIn K cd_law_box "_law_box" = true)
    (k_law_box : PySem.W.keepIn K (.ref f_law_box) = true)
    (a_law_take : PySem.W.nsIn K mainGlobals "_law_take" = some (some (.ref f_law_take)))
    (l_law_take : K.lookup f_law_take = some ⟨oc_law_take, od_law_take, .func (PySem.W.fnOf "_law_take" "_law_take" (defArgs s_law_take) (defBody s_law_take) (defScope s_law_take) .none kV_law_take dc_law_take pm_law_take an_law_take cd_law_take ct_law_take), sl_law_take⟩)
    (c_law_take : PySem.W.codeIn K cd_law_take "_law_take" = true)
    (k_law_take : PySem.W.keepIn K (.ref f_law_take) = true)
    (a_law_names : PySem.W.nsIn K mainGlobals "_law_names" = some (some (.ref f_law_names)))
    (l_law_names : K.lookup f_law_names = some ⟨oc_law_names, od_law_names, .func (PySem.W.fnOf "_law_names" "_law_names" (defArgs s_law_names) (defBody s_law_names) (defScope s_law_names) .none kV_law_names dc_law_names pm_law_names an_law_names cd_law_names ct_law_names), sl_law_names⟩)
    (c_law_names : PySem.W.codeIn K cd_law_names "_law_names" = true)
    (k_law_names : PySem.W.keepIn K (.ref f_law_names) = true)
    (a_law_wood : PySem.W.nsIn K mainGlobals "_law_wood" = some (some (.ref f_law_wood)))
    (l_law_wood : K.lookup f_law_wood = some ⟨oc_law_wood, od_law_wood, .func (PySem.W.fnOf "_law_wood" "_law_wood" (defArgs s_law_wood) (defBody s_law_wood) (defScope s_law_wood) .none kV_law_wood dc_law_wood pm_law_wood an_law_wood cd_law_wood ct_law_wood), sl_law_wood⟩)
    (c_law_wood : PySem.W.codeIn K cd_law_wood "_law_wood" = true)
    (k_law_wood : PySem.W.keepIn K (.ref f_law_wood) = true)
    (a_law_makers : PySem.W.nsIn K mainGlobals "_law_makers" = some (some (.ref f_law_makers)))
    (l_law_makers : K.lookup f_law_makers = some ⟨oc_law_makers, od_law_makers, .func (PySem.W.fnOf "_law_makers" "_law_makers" (defArgs s_law_makers) (defBody s_law_makers) (defScope s_law_makers) .none kV_law_makers dc_law_makers pm_law_makers an_law_makers cd_law_makers ct_law_makers), sl_law_makers⟩)
    (c_law_makers : PySem.W.codeIn K cd_law_makers "_law_makers" = true)
    (k_law_makers : PySem.W.keepIn K (.ref f_law_makers) = true)
    (a_law_is_name : PySem.W.nsIn K mainGlobals "_law_is_name" = some (some (.ref f_law_is_name)))
    (l_law_is_name : K.lookup f_law_is_name = some ⟨oc_law_is_name, od_law_is_name, .func (PySem.W.fnOf "_law_is_name" "_law_is_name" (defArgs s_law_is_name) (defBody s_law_is_name) (defScope s_law_is_name) .none kV_law_is_name dc_law_is_name pm_law_is_name an_law_is_name cd_law_is_name ct_law_is_name), sl_law_is_name⟩)
    (c_law_is_name : PySem.W.codeIn K cd_law_is_name "_law_is_name" = true)
    (k_law_is_name : PySem.W.keepIn K (.ref f_law_is_name) = true)
    (a_law_any_text : PySem.W.nsIn K mainGlobals "_law_any_text" = some (some (.ref f_law_any_text)))
    (l_law_any_text : K.lookup f_law_any_text = some ⟨oc_law_any_text, od_law_any_text, .func (PySem.W.fnOf "_law_any_text" "_law_any_text" (defArgs s_law_any_text) (defBody s_law_any_text) (defScope s_law_any_text) .none kV_law_any_text dc_law_any_text pm_law_any_text an_law_any_text cd_law_any_text ct_law_any_text), sl_law_any_text⟩)
    (c_law_any_text : PySem.W.codeIn K cd_law_any_text "_law_any_text" = true)
    (k_law_any_text : PySem.W.keepIn K (.ref f_law_any_text) = true)
    (a_law_alike : PySem.W.nsIn K mainGlobals "_law_alike" = some (some (.ref f_law_alike)))
    (l_law_alike : K.lookup f_law_alike = some ⟨oc_law_alike, od_law_alike, .func (PySem.W.fnOf "_law_alike" "_law_alike" (defArgs s_law_alike) (defBody s_law_alike) (defScope s_law_alike) .none kV_law_alike dc_law_alike pm_law_alike an_law_alike cd_law_alike ct_law_alike), sl_law_alike⟩)
    (c_law_alike : PySem.W.codeIn K cd_law_alike "_law_alike" = true)
    (k_law_alike : PySem.W.keepIn K (.ref f_law_alike) = true)
    (a_law_right : PySem.W.nsIn K mainGlobals "_law_right" = some (some (.ref f_law_right)))
    (l_law_right : K.lookup f_law_right = some ⟨oc_law_right, od_law_right, .func (PySem.W.fnOf "_law_right" "_law_right" (defArgs s_law_right) (defBody s_law_right) (defScope s_law_right) .none kV_law_right dc_law_right pm_law_right an_law_right cd_law_right ct_law_right), sl_law_right⟩)
    (c_law_right : PySem.W.codeIn K cd_law_right "_law_right" = true)
    (k_law_right : PySem.W.keepIn K (.ref f_law_right) = true)
    (a_law : PySem.W.nsIn K mainGlobals "law" = some (some (.ref f_law)))
    (l_law : K.lookup f_law = some ⟨oc_law, od_law, .func (PySem.W.fnOf "law" "law" (defArgs s_law) (defBody s_law) (defScope s_law) .none kV_law dc_law pm_law an_law cd_law ct_law), sl_law⟩)
    (c_law : PySem.W.codeIn K cd_law "law" = true)
    (k_law : PySem.W.keepIn K (.ref f_law) = true)
    (zb_ValueError : PySem.W.nsIn K mainGlobals "ValueError" = some none)
    (zb_all : PySem.W.nsIn K mainGlobals "all" = some none)
    (zb_bool : PySem.W.nsIn K mainGlobals "bool" = some none)
    (zb_dict : PySem.W.nsIn K mainGlobals "dict" = some none)
    (zb_enumerate : PySem.W.nsIn K mainGlobals "enumerate" = some none)
    (zb_int : PySem.W.nsIn K mainGlobals "int" = some none)
    (zb_isinstance : PySem.W.nsIn K mainGlobals "isinstance" = some none)
    (zb_len : PySem.W.nsIn K mainGlobals "len" = some none)
    (zb_list : PySem.W.nsIn K mainGlobals "list" = some none)
    (zb_max : PySem.W.nsIn K mainGlobals "max" = some none)
    (zb_min : PySem.W.nsIn K mainGlobals "min" = some none)
    (zb_range : PySem.W.nsIn K mainGlobals "range" = some none)
    (zb_tuple : PySem.W.nsIn K mainGlobals "tuple" = some none)
    (zb_zip : PySem.W.nsIn K mainGlobals "zip" = some none)
    : ∃ T : Txt K mg, T.a_law = f_law ∧ ∀ (s : Shared) (v : Value), BindsTo s T.d_law ⟨[v], []⟩ [("_law_script", v)] := by
  refine ⟨{
    a_BoughError := C_BoughError,
    m_BoughError := PySem.W.mg_of X G ac_BoughError,
    x_BoughError := ⟨⟨_, _, _, _, _, _, _, _, _, _, _, _, _, _, _, xl_BoughError, fun Y => rfl⟩, xe_BoughError, xt_BoughError, xk_BoughError⟩,
    i0_BoughError := xi_BoughError,
    t0_BoughError := xt_BoughError,
    s0_BoughError := xs_BoughError,
    e_BoughError := exm_self xe_BoughError xi_BoughError xt_BoughError xs_BoughError,
    c_BoughError := ⟨g1_BoughError, g2_BoughError, xe_BoughError, g3_BoughError, g4_BoughError, g5_BoughError, g6_BoughError, g7_BoughError⟩,
    h_BoughError := ⟨h1_BoughError, h2_BoughError, h3_BoughError⟩,
    a_NoWood := C_NoWood,
    m_NoWood := PySem.W.mg_of X G ac_NoWood,
    x_NoWood := ⟨⟨_, _, _, _, _, _, _, _, _, _, _, _, _, _, _, xl_NoWood, fun Y => rfl⟩, xe_NoWood, xt_NoWood, xk_NoWood⟩,
    i0_NoWood := xi_NoWood,
    t0_NoWood := xt_NoWood,
    s0_NoWood := xs_NoWood,
    e_NoWood := exm_self xe_NoWood xi_NoWood xt_NoWood xs_NoWood,
    c_NoWood := ⟨g1_NoWood, g2_NoWood, xe_NoWood, g3_NoWood, g4_NoWood, g5_NoWood, g6_NoWood, g7_NoWood⟩,
    aI_NoWood := fI_NoWood,
    dI_NoWood := _,
    FI_NoWood := fun_mk (st := sI_NoWood) lI_NoWood cI_NoWood kI_NoWood,
    bI_NoWood := (fun_mk (st := sI_NoWood) lI_NoWood cI_NoWood kI_NoWood).binds (ps := ["self", "word", "name"]) fun _ _ _ _ _ _ us hl => match us, hl with | [_, _, _], _ => rfl,
    i_NoWood := iI_NoWood,
    t_NoWood := tI_NoWood,
    o_NoWood := ⟨⟨_, _, _, _, _, _, _, _, _, _, _, _, _, _, _, xl_NoWood, rfl⟩, sa_NoWood, xe_NoWood, xt_NoWood, xk_NoWood⟩,
    n_NoWood_word := nf_NoWood_word,
    n_NoWood_name := nf_NoWood_name,
    v_ValueError := vb_ValueError,
    m_LETTERS := ⟨_, PySem.W.mg_of X G mc_LETTERS, ⟨_, rfl⟩⟩,
    m_MOST_LETTERS := ⟨_, PySem.W.mg_of X G mc_MOST_LETTERS, ⟨_, rfl⟩⟩,
    m_MOST_KINDS := ⟨_, PySem.W.mg_of X G mc_MOST_KINDS, ⟨_, rfl⟩⟩,
    m_MOST_PARTS := ⟨_, PySem.W.mg_of X G mc_MOST_PARTS, ⟨_, rfl⟩⟩,
    m_MOST_MAKERS := ⟨_, PySem.W.mg_of X G mc_MOST_MAKERS, ⟨_, rfl⟩⟩,
    a_is_name := f_is_name,
    d_is_name := _,
    m_is_name := PySem.W.mg_of X G a_is_name,
    F_is_name := fun_mk (st := s_is_name) l_is_name c_is_name k_is_name,
    b_is_name := (fun_mk (st := s_is_name) l_is_name c_is_name k_is_name).binds (ps := ["text"]) fun _ _ _ _ _ _ us hl => match us, hl with | [_], _ => rfl,
    a_need := f_need,
    d_need := _,
    m_need := PySem.W.mg_of X G a_need,
    F_need := (FunD.mk ⟨_, _, _, _, _, _, _, _, _, _, rfl, l_need, c_need, .inr ⟨by simp, _, _, [.str "" dk_need0], _, rfl, t_need, rfl, (.cons ⟨_, rfl⟩ .nil)⟩, .inl rfl⟩ k_need : FunD K "need" "need" (defArgs s_need) (defBody s_need) (defScope s_need) [.str ""] [] f_need _),
    b_need := binds_all ((FunD.mk ⟨_, _, _, _, _, _, _, _, _, _, rfl, l_need, c_need, .inr ⟨by simp, _, _, [.str "" dk_need0], _, rfl, t_need, rfl, (.cons ⟨_, rfl⟩ .nil)⟩, .inl rfl⟩ k_need : FunD K "need" "need" (defArgs s_need) (defBody s_need) (defScope s_need) [.str ""] [] f_need _).binds1 (ps := ["good", "word", "name"]) 3 1 (by simp) rfl fun _ _ _ _ _ _ _ us its hl hi => match us, hl, its, hi with | [_, _, _], _, [_], _ => ⟨_, rfl, rfl⟩),
    bv_need1 := (FunD.mk ⟨_, _, _, _, _, _, _, _, _, _, rfl, l_need, c_need, .inr ⟨by simp, _, _, [.str "" dk_need0], _, rfl, t_need, rfl, (.cons ⟨_, rfl⟩ .nil)⟩, .inl rfl⟩ k_need : FunD K "need" "need" (defArgs s_need) (defBody s_need) (defScope s_need) [.str ""] [] f_need _).binds1 (ps := ["good", "word", "name"]) 2 0 (by simp) rfl fun _ _ _ _ _ _ _ us its hl hi => match us, hl, its, hi with | [_, _], _, [_], _ => ⟨_, rfl, rfl⟩,
    a_look_wood := f_look_wood,
    d_look_wood := _,
    m_look_wood := PySem.W.mg_of X G a_look_wood,
    F_look_wood := fun_mk (st := s_look_wood) l_look_wood c_look_wood k_look_wood,
    b_look_wood := (fun_mk (st := s_look_wood) l_look_wood c_look_wood k_look_wood).binds (ps := ["wood"]) fun _ _ _ _ _ _ us hl => match us, hl with | [_], _ => rfl,
    a_look_makers := f_look_makers,
    d_look_makers := _,
    m_look_makers := PySem.W.mg_of X G a_look_makers,
    F_look_makers := fun_mk (st := s_look_makers) l_look_makers c_look_makers k_look_makers,
    b_look_makers := (fun_mk (st := s_look_makers) l_look_makers c_look_makers k_look_makers).binds (ps := ["wood", "kinds"]) fun _ _ _ _ _ _ us hl => match us, hl with | [_, _], _ => rfl,
    a_kinds_by_name := f_kinds_by_name,
    d_kinds_by_name := _,
    m_kinds_by_name := PySem.W.mg_of X G a_kinds_by_name,
    F_kinds_by_name := fun_mk (st := s_kinds_by_name) l_kinds_by_name c_kinds_by_name k_kinds_by_name,
    b_kinds_by_name := (fun_mk (st := s_kinds_by_name) l_kinds_by_name c_kinds_by_name k_kinds_by_name).binds (ps := ["wood"]) fun _ _ _ _ _ _ us hl => match us, hl with | [_], _ => rfl,
    a_makers_of := f_makers_of,
    d_makers_of := _,
    m_makers_of := PySem.W.mg_of X G a_makers_of,
    F_makers_of := fun_mk (st := s_makers_of) l_makers_of c_makers_of k_makers_of,
    b_makers_of := (fun_mk (st := s_makers_of) l_makers_of c_makers_of k_makers_of).binds (ps := ["wood"]) fun _ _ _ _ _ _ us hl => match us, hl with | [_], _ => rfl,
    a_maker_table := f_maker_table,
    d_maker_table := _,
    m_maker_table := PySem.W.mg_of X G a_maker_table,
    F_maker_table := fun_mk (st := s_maker_table) l_maker_table c_maker_table k_maker_table,
    b_maker_table := (fun_mk (st := s_maker_table) l_maker_table c_maker_table k_maker_table).binds (ps := ["wood"]) fun _ _ _ _ _ _ us hl => match us, hl with | [_], _ => rfl,
    a_kind_of := f_kind_of,
    d_kind_of := _,
    m_kind_of := PySem.W.mg_of X G a_kind_of,
    F_kind_of := fun_mk (st := s_kind_of) l_kind_of c_kind_of k_kind_of,
    b_kind_of := (fun_mk (st := s_kind_of) l_kind_of c_kind_of k_kind_of).binds (ps := ["wood", "maker"]) fun _ _ _ _ _ _ us hl => match us, hl with | [_, _], _ => rfl,
    a_parts_of := f_parts_of,
    d_parts_of := _,
    m_parts_of := PySem.W.mg_of X G a_parts_of,
    F_parts_of := fun_mk (st := s_parts_of) l_parts_of c_parts_of k_parts_of,
    b_parts_of := (fun_mk (st := s_parts_of) l_parts_of c_parts_of k_parts_of).binds (ps := ["wood", "maker"]) fun _ _ _ _ _ _ us hl => match us, hl with | [_, _], _ => rfl,
    a_law_box := f_law_box,
    d_law_box := _,
    m_law_box := PySem.W.mg_of X G a_law_box,
    F_law_box := fun_mk (st := s_law_box) l_law_box c_law_box k_law_box,
    b_law_box := (fun_mk (st := s_law_box) l_law_box c_law_box k_law_box).binds (ps := ["_law_script", "_law_k"]) fun _ _ _ _ _ _ us hl => match us, hl with | [_, _], _ => rfl,
    a_law_take := f_law_take,
    d_law_take := _,
    m_law_take := PySem.W.mg_of X G a_law_take,
    F_law_take := fun_mk (st := s_law_take) l_law_take c_law_take k_law_take,
    b_law_take := (fun_mk (st := s_law_take) l_law_take c_law_take k_law_take).binds (ps := ["_law_box_here", "_law_many"]) fun _ _ _ _ _ _ us hl => match us, hl with | [_, _], _ => rfl,
    a_law_names := f_law_names,
    d_law_names := _,
    m_law_names := PySem.W.mg_of X G a_law_names,
    F_law_names := fun_mk (st := s_law_names) l_law_names c_law_names k_law_names,
    b_law_names := (fun_mk (st := s_law_names) l_law_names c_law_names k_law_names).binds (ps := ["_law_box_here", "_law_many"]) fun _ _ _ _ _ _ us hl => match us, hl with | [_, _], _ => rfl,
    a_law_wood := f_law_wood,
    d_law_wood := _,
    m_law_wood := PySem.W.mg_of X G a_law_wood,
    F_law_wood := fun_mk (st := s_law_wood) l_law_wood c_law_wood k_law_wood,
    b_law_wood := (fun_mk (st := s_law_wood) l_law_wood c_law_wood k_law_wood).binds (ps := ["_law_box_here", "_law_most"]) fun _ _ _ _ _ _ us hl => match us, hl with | [_, _], _ => rfl,
    a_law_makers := f_law_makers,
    d_law_makers := _,
    m_law_makers := PySem.W.mg_of X G a_law_makers,
    F_law_makers := fun_mk (st := s_law_makers) l_law_makers c_law_makers k_law_makers,
    b_law_makers := (fun_mk (st := s_law_makers) l_law_makers c_law_makers k_law_makers).binds (ps := ["_law_wood_here"]) fun _ _ _ _ _ _ us hl => match us, hl with | [_], _ => rfl,
    a_law_is_name := f_law_is_name,
    d_law_is_name := _,
    m_law_is_name := PySem.W.mg_of X G a_law_is_name,
    F_law_is_name := fun_mk (st := s_law_is_name) l_law_is_name c_law_is_name k_law_is_name,
    b_law_is_name := (fun_mk (st := s_law_is_name) l_law_is_name c_law_is_name k_law_is_name).binds (ps := ["_law_text"]) fun _ _ _ _ _ _ us hl => match us, hl with | [_], _ => rfl,
    a_law_any_text := f_law_any_text,
    d_law_any_text := _,
    m_law_any_text := PySem.W.mg_of X G a_law_any_text,
    F_law_any_text := fun_mk (st := s_law_any_text) l_law_any_text c_law_any_text k_law_any_text,
    b_law_any_text := (fun_mk (st := s_law_any_text) l_law_any_text c_law_any_text k_law_any_text).binds (ps := ["_law_box_here"]) fun _ _ _ _ _ _ us hl => match us, hl with | [_], _ => rfl,
    a_law_alike := f_law_alike,
    d_law_alike := _,
    m_law_alike := PySem.W.mg_of X G a_law_alike,
    F_law_alike := fun_mk (st := s_law_alike) l_law_alike c_law_alike k_law_alike,
    b_law_alike := (fun_mk (st := s_law_alike) l_law_alike c_law_alike k_law_alike).binds (ps := ["_law_found", "_law_due"]) fun _ _ _ _ _ _ us hl => match us, hl with | [_, _], _ => rfl,
    a_law_right := f_law_right,
    d_law_right := _,
    m_law_right := PySem.W.mg_of X G a_law_right,
    F_law_right := fun_mk (st := s_law_right) l_law_right c_law_right k_law_right,
    b_law_right := (fun_mk (st := s_law_right) l_law_right c_law_right k_law_right).binds (ps := ["_law_wood_here"]) fun _ _ _ _ _ _ us hl => match us, hl with | [_], _ => rfl,
    a_law := f_law,
    d_law := _,
    m_law := PySem.W.mg_of X G a_law,
    F_law := fun_mk (st := s_law) l_law c_law k_law,
    b_law := (fun_mk (st := s_law) l_law c_law k_law).binds (ps := ["_law_script"]) fun _ _ _ _ _ _ us hl => match us, hl with | [_], _ => rfl,
    z_ValueError := PySem.W.mg_none_of X G zb_ValueError,
    z_all := PySem.W.mg_none_of X G zb_all,
    z_bool := PySem.W.mg_none_of X G zb_bool,
    z_dict := PySem.W.mg_none_of X G zb_dict,
    z_enumerate := PySem.W.mg_none_of X G zb_enumerate,
    z_int := PySem.W.mg_none_of X G zb_int,
    z_isinstance := PySem.W.mg_none_of X G zb_isinstance,
    z_len := PySem.W.mg_none_of X G zb_len,
    z_list := PySem.W.mg_none_of X G zb_list,
    z_max := PySem.W.mg_none_of X G zb_max,
    z_min := PySem.W.mg_none_of X G zb_min,
    z_range := PySem.W.mg_none_of X G zb_range,
    z_tuple := PySem.W.mg_none_of X G zb_tuple,
    z_zip := PySem.W.mg_none_of X G zb_zip }, rfl, fun s v => .of_eq rfl⟩
end Lw
namespace Lw
open PySem PySem.Spec PyProof.Rows L2 Bk
theorem walk {l : PySem.W.OpenLaw} {q : Program} {loose : List Str} {XP : (Str → Option Value) → Heap → Prop} {YP : World → Heap → Prop} {d : DefRec} {K : Params → PySem.W.Frag} (hn : l.most = some 63) (hdf : d.params.defaults = [])
    (hY : ∀ (w : World) (h : Heap), YP w h → (K w.params).In h)
    (F : ∀ (w : World) (mg : Str → Option Value) (fa : Addr) (h : Heap), (K w.params).In h → h.Ns mainGlobals mg → mg d.name = some (.ref fa) →
      ∃ fd : FuncData, (∀ (s : Shared) (u : Value), BindsTo s fd ⟨[u], []⟩ [("_law_script", u)]) ∧ ∀ base : Heap, (K w.params).In base → base.Ns mainGlobals mg → FnOk l.prog w (K w.params) mg base (L2.CX l.prog w) 7 fa fd ["_law_script"] (spLaw (K w.params))) :
    PySem.W.WalkO q loose XP YP l.row.toRowW d [] (fun f vs => PySem.call f vs) :=
  L2.walk_of (n := 63) (k := 7) (x := "_law_script") (CX := fun w => L2.CX l.prog w) (sp := fun w => spLaw (K w.params)) hn (by decide) hdf ⟨rfl, by decide, by decide⟩ hY F (fun _ _ a ns hl hO hS => spLaw_of hO hS hl) fun _ _ _ _ _ z => cx_false z
theorem fin {P : Program} {w : World} {K : PySem.W.Frag} {mg : Str → Option Value} {fa f : Addr} (hmg : mg "law" = some (.ref fa)) (z : ∃ T : Txt K mg, T.a_law = f ∧ ∀ (s : Shared) (v : Value), BindsTo s T.d_law ⟨[v], []⟩ [("_law_script", v)]) :
    ∃ fd : FuncData, (∀ (s : Shared) (u : Value), BindsTo s fd ⟨[u], []⟩ [("_law_script", u)]) ∧ ∀ base : Heap, K.In base → base.Ns mainGlobals mg → FnOk P w K mg base (L2.CX P w) 7 fa fd ["_law_script"] (spLaw K) := by
  obtain ⟨T, ea, hb⟩ := z
  refine ⟨T.d_law, hb, fun base _ _ => ?_⟩
  have e := hmg.symm.trans T.m_law
  cases e
  exact ok_law T
end Lw
open PySem PySem.W PyProof.Rows
set_option maxRecDepth 100000 in
set_option maxHeartbeats 0 in
theorem PySem.Challenge.cw_boughkept_k06_woods_and_names_holds : PySem.Challenge.rw_boughkept_k06_woods_and_names.Holds := by
  w_on; o_law; k_head; (case hw => w_witness2)
  k_fill
  refine Lw.walk (l := PySem.Challenge.rw_boughkept_k06_woods_and_names) rfl rfl (fun w h Y => PySem.W.kIn_of Y) ?F
  case F =>
    intro w mg fa h KX G hmg
    refine' Lw.fin hmg (Lw.mk_txt KX G ?ac_BoughError ?xl_BoughError ?xe_BoughError ?xt_BoughError ?xk_BoughError ?xi_BoughError ?xs_BoughError ?g1_BoughError ?g2_BoughError ?g3_BoughError ?g4_BoughError ?g5_BoughError ?g6_BoughError ?g7_BoughError ?h1_BoughError ?h2_BoughError ?h3_BoughError ?ac_NoWood ?xl_NoWood ?xe_NoWood ?xt_NoWood ?xk_NoWood ?xi_NoWood ?xs_NoWood ?g1_NoWood ?g2_NoWood ?g3_NoWood ?g4_NoWood ?g5_NoWood ?g6_NoWood ?g7_NoWood ?iI_NoWood ?tI_NoWood ?lI_NoWood ?cI_NoWood ?kI_NoWood ?sa_NoWood ?nf_NoWood_word ?nf_NoWood_name ?vb_ValueError ?mc_LETTERS ?mc_MOST_LETTERS ?mc_MOST_KINDS ?mc_MOST_PARTS ?mc_MOST_MAKERS ?a_is_name ?l_is_name ?c_is_name ?k_is_name ?a_need ?l_need ?c_need ?k_need ?t_need ?a_look_wood ?l_look_wood ?c_look_wood ?k_look_wood ?a_look_makers ?l_look_makers ?c_look_makers ?k_look_makers ?a_kinds_by_name ?l_kinds_by_name ?c_kinds_by_name ?k_kinds_by_name ?a_makers_of ?l_makers_of ?c_makers_of ?k_makers_of ?a_maker_table ?l_maker_table ?c_maker_table ?k_maker_table ?a_kind_of ?l_kind_of ?c_kind_of ?k_kind_of ?a_parts_of ?l_parts_of ?c_parts_of ?k_parts_of ?a_law_box ?l_law_box ?c_law_box ?k_law_box ?a_law_take ?l_law_take ?c_law_take ?k_law_take ?a_law_names ?l_law_names ?c_law_names ?k_law_names ?a_law_wood ?l_law_wood ?c_law_wood ?k_law_wood ?a_law_makers ?l_law_makers ?c_law_makers ?k_law_makers ?a_law_is_name ?l_law_is_name ?c_law_is_name ?k_law_is_name ?a_law_any_text ?l_law_any_text ?c_law_any_text ?k_law_any_text ?a_law_alike ?l_law_alike ?c_law_alike ?k_law_alike ?a_law_right ?l_law_right ?c_law_right ?k_law_right ?a_law ?l_law ?c_law ?k_law ?zb_ValueError ?zb_all ?zb_bool ?zb_dict ?zb_enumerate ?zb_int ?zb_isinstance ?zb_len ?zb_list ?zb_max ?zb_min ?zb_range ?zb_tuple ?zb_zip)
    (case ac_BoughError => k_is)
    (case xl_BoughError => k_is)
    (case xe_BoughError => k_is)
    (case xt_BoughError => k_is)
    (case xk_BoughError => k_is)
    (case xi_BoughError => k_is)
    (case xs_BoughError => k_is)
    (case g1_BoughError => k_is)
    (case g2_BoughError => k_is)
    (case g3_BoughError => k_is)
    (case g4_BoughError => k_is)
    (case g5_BoughError => k_is)
    (case g6_BoughError => k_is)
    (case g7_BoughError => k_is)
    (case h1_BoughError => k_is)
    (case h2_BoughError => k_is)
    (case h3_BoughError => k_is)
    (case ac_NoWood => k_is)
    (case xl_NoWood => k_is)
    (case xe_NoWood => k_is)
    (case xt_NoWood => k_is)
    (case xk_NoWood => k_is)
    (case xi_NoWood => k_is)
    (case xs_NoWood => k_is)
    (case g1_NoWood => k_is)
    (case g2_NoWood => k_is)
    (case g3_NoWood => k_is)
    (case g4_NoWood => k_is)
    (case g5_NoWood => k_is)
    (case g6_NoWood => k_is)
    (case g7_NoWood => k_is)
    (case iI_NoWood => k_is)
    (case tI_NoWood => k_is)
    (case lI_NoWood => k_is)
    (case cI_NoWood => k_is)
    (case kI_NoWood => k_is)
    (case sa_NoWood => k_is)
    (case nf_NoWood_word => k_is)
    (case nf_NoWood_name => k_is)
    (case vb_ValueError => k_is)
    (case mc_LETTERS => k_is)
    (case mc_MOST_LETTERS => k_is)
    (case mc_MOST_KINDS => k_is)
    (case mc_MOST_PARTS => k_is)
    (case mc_MOST_MAKERS => k_is)
    (case a_is_name => k_is)
    (case l_is_name => k_is)
    (case c_is_name => k_is)
    (case k_is_name => k_is)
    (case a_need => k_is)
    (case l_need => k_is)
    (case c_need => k_is)
    (case k_need => k_is)
    (case t_need => k_is)
    (case a_look_wood => k_is)
    (case l_look_wood => k_is)
    (case c_look_wood => k_is)
    (case k_look_wood => k_is)
    (case a_look_makers => k_is)
    (case l_look_makers => k_is)
    (case c_look_makers => k_is)
    (case k_look_makers => k_is)
    (case a_kinds_by_name => k_is)
    (case l_kinds_by_name => k_is)
    (case c_kinds_by_name => k_is)
    (case k_kinds_by_name => k_is)
    (case a_makers_of => k_is)
    (case l_makers_of => k_is)
    (case c_makers_of => k_is)
    (case k_makers_of => k_is)
    (case a_maker_table => k_is)
    (case l_maker_table => k_is)
    (case c_maker_table => k_is)
    (case k_maker_table => k_is)
    (case a_kind_of => k_is)
    (case l_kind_of => k_is)
    (case c_kind_of => k_is)
    (case k_kind_of => k_is)
    (case a_parts_of => k_is)
    (case l_parts_of => k_is)
    (case c_parts_of => k_is)
    (case k_parts_of => k_is)
    (case a_law_box => k_is)
    (case l_law_box => k_is)
    (case c_law_box => k_is)
    (case k_law_box => k_is)
    (case a_law_take => k_is)
    (case l_law_take => k_is)
    (case c_law_take => k_is)
    (case k_law_take => k_is)
    (case a_law_names => k_is)
    (case l_law_names => k_is)
    (case c_law_names => k_is)
    (case k_law_names => k_is)
    (case a_law_wood => k_is)
    (case l_law_wood => k_is)
    (case c_law_wood => k_is)
    (case k_law_wood => k_is)
    (case a_law_makers => k_is)
    (case l_law_makers => k_is)
    (case c_law_makers => k_is)
    (case k_law_makers => k_is)
    (case a_law_is_name => k_is)
    (case l_law_is_name => k_is)
    (case c_law_is_name => k_is)
    (case k_law_is_name => k_is)
    (case a_law_any_text => k_is)
    (case l_law_any_text => k_is)
    (case c_law_any_text => k_is)
    (case k_law_any_text => k_is)
    (case a_law_alike => k_is)
    (case l_law_alike => k_is)
    (case c_law_alike => k_is)
    (case k_law_alike => k_is)
    (case a_law_right => k_is)
    (case l_law_right => k_is)
    (case c_law_right => k_is)
    (case k_law_right => k_is)
    (case a_law => k_is)
    (case l_law => k_is)
    (case c_law => k_is)
    (case k_law => k_is)
    (case zb_ValueError => k_is)
    (case zb_all => k_is)
    (case zb_bool => k_is)
    (case zb_dict => k_is)
    (case zb_enumerate => k_is)
    (case zb_int => k_is)
    (case zb_isinstance => k_is)
    (case zb_len => k_is)
    (case zb_list => k_is)
    (case zb_max => k_is)
    (case zb_min => k_is)
    (case zb_range => k_is)
    (case zb_tuple => k_is)
    (case zb_zip => k_is)
#print axioms PySem.Challenge.cw_boughkept_k06_woods_and_names_holds
