import PyProof.Rows.All
import Wide.All
import OpenK.AllK
import Wide.FinOn
import HandS.ForMost
import HandS.ForExc
import HandS.Wide
import HandS.IsInst
import HandS.ExcIs
import HandS.ExcInit
import HandS.Flow
import HandS.Zip
import HandS.TupAny
import HandS.TupLe
import HandS.ListItems
import HandS.Defaults
import HandS.Text
import HandS.SetKeys
import HandS.ExcField
import HandS.Codes
import KE.KDictZip
import KE.KDictItemsList
import PySem.Challenge.RW_boughkept_k01_fractions_reckoned
set_option pp.maxSteps 1200
set_option Elab.async false
set_option linter.all false
set_option maxRecDepth 100000
set_option maxHeartbeats 4000000
set_option Elab.async false
set_option linter.all false
set_option maxRecDepth 100000
set_option maxHeartbeats 4000000
/-! Bk1: readings that compute by themselves, over the hand layer. -/
namespace Bk
open PySem PySem.Spec PyProof.Rows L2

/-! ### heaps: what is kept -/
/-- every tracked object stands as it stood -/
def Ex (H H' : Hp) : Prop := ∀ a o, H a = some o → H' a = some o
/-- .. but what stands at l -/
def But (l : Addr) (H H' : Hp) : Prop := ∀ a o, a ≠ l → H a = some o → H' a = some o
/-- the tuples stand -/
def Tk (H H' : Hp) : Prop := ∀ a xs, H a = some (.tup xs) → H' a = some (.tup xs)
theorem Ex.refl (H : Hp) : Ex H H := fun _ _ h => h
theorem Ex.trans {H H1 H2 : Hp} (a : Ex H H1) (b : Ex H1 H2) : Ex H H2 := fun x o h => b x o (a x o h)
theorem Ex.new {H : Hp} {p : Addr} {o : HO} (h : H p = none) : Ex H (upd H p o) := fun a u e => by
  rw [upd_ne (ne_of_none e h)]
  exact e
theorem Ex.at_new {H H' : Hp} {p : Addr} {o : HO} (x : Ex H H') (h : H p = none) : Ex H (upd H' p o) := fun a u e => by
  rw [upd_ne (ne_of_none e h)]
  exact x a u e
theorem Ex.free {H H' : Hp} {p : Addr} (e : Ex H H') (h : H' p = none) : H p = none := by
  cases q : H p with
  | none => rfl
  | some o => rw [e p o q] at h; cases h
theorem Ex.but {H H' : Hp} (l : Addr) (e : Ex H H') : But l H H' := fun a o _ h => e a o h
theorem Ex.of_but {H H' : Hp} {l : Addr} (e : But l H H') (h : H l = none) : Ex H H' := fun a o q => e a o (ne_of_none q h) q
theorem But.refl (l : Addr) (H : Hp) : But l H H := fun _ _ _ h => h
theorem But.trans {l : Addr} {H H1 H2 : Hp} (a : But l H H1) (b : But l H1 H2) : But l H H2 := fun x o n h => b x o n (a x o n h)
theorem But.upd {l : Addr} {H H' : Hp} {o : HO} (a : But l H H') : But l H (upd H' l o) := fun x u n h => by
  rw [upd_ne n]
  exact a x u n h
theorem But.get {l a : Addr} {H H' : Hp} {o u : HO} (b : But l H H') (hl : H l = some u) (h : H a = some o) (d : o ≠ u) : H' a = some o := b a o (ne_of h hl d) h
theorem Ex.tk {H H' : Hp} (e : Ex H H') : Tk H H' := fun a xs h => e a _ h
theorem But.tk {l : Addr} {H H' : Hp} {u : HO} (b : But l H H') (hl : H l = some u) (d : ∀ xs, HO.tup xs ≠ u) : Tk H H' := fun a xs h => b.get hl h (d xs)
theorem But.tkl {l : Addr} {H H' : Hp} {ys : List V} (b : But l H H') (hl : H l = some (.lst ys)) : Tk H H' := b.tk hl fun _ z => nomatch z
theorem Tk.refl (H : Hp) : Tk H H := fun _ _ h => h
theorem Tk.trans {H H1 H2 : Hp} (a : Tk H H1) (b : Tk H1 H2) : Tk H H2 := fun x o h => b x o (a x o h)
theorem sqL {K : PySem.W.Frag} {H : Hp} {a : Addr} {xs : List V} (h : H a = some (.lst xs)) : SqL K H a xs := .inl (.inl h)
theorem sqT {K : PySem.W.Frag} {H : Hp} {a : Addr} {xs : List V} (h : H a = some (.tup xs)) : SqT K H a xs := .inl (.inl h)
theorem Ex.seqL {K : PySem.W.Frag} {H H' : Hp} {a : Addr} {xs : List V} (e : Ex H H') (h : SqL K H a xs) : SqL K H' a xs := by
  rcases h with (h | ⟨o, h⟩) | h
  · exact .inl (.inl (e _ _ h))
  · exact .inl (.inr ⟨o, e _ _ h⟩)
  · exact .inr h
theorem But.seqL {K : PySem.W.Frag} {l : Addr} {H H' : Hp} {a : Addr} {xs : List V} (e : But l H H') (n : a ≠ l) (h : SqL K H a xs) : SqL K H' a xs := by
  rcases h with (h | ⟨o, h⟩) | h
  · exact .inl (.inl (e _ _ n h))
  · exact .inl (.inr ⟨o, e _ _ n h⟩)
  · exact .inr h

/-! ### data: what a value stands for -/
inductive D where
  | non | bl (b : Bool) | int (i : Int) | str (s : Str) | tup (ds : List D) | lst (ds : List D)
mutual
def Rep (H : Hp) : D → V → Prop
  | .non, v => v = .non
  | .bl b, v => v = .bl b
  | .int i, v => v = .int i
  | .str s, v => v = .str s
  | .tup ds, v => ∃ a vs, v = .ref a ∧ H a = some (.tup vs) ∧ Reps H ds vs
  | .lst ds, v => ∃ a vs, v = .ref a ∧ H a = some (.lst vs) ∧ Reps H ds vs
def Reps (H : Hp) : List D → List V → Prop
  | [], vs => vs = []
  | d :: ds, vs => ∃ v r, vs = v :: r ∧ Rep H d v ∧ Reps H ds r
end
mutual
/-- tuples and flat things alone -/
def D.hard : D → Bool
  | .lst _ => false
  | .tup ds => D.hards ds
  | .non => true | .bl _ => true | .int _ => true | .str _ => true
def D.hards : List D → Bool
  | [] => true
  | d :: ds => d.hard && D.hards ds
end
mutual
def D.size : D → Nat
  | .tup ds => 1 + D.sizes ds
  | .lst ds => 1 + D.sizes ds
  | .non => 1 | .bl _ => 1 | .int _ => 1 | .str _ => 1
def D.sizes : List D → Nat
  | [] => 0
  | d :: ds => d.size + D.sizes ds
end
theorem D.size_pos (d : D) : 1 ≤ d.size := by cases d <;> simp only [D.size] <;> omega
mutual
theorem Rep.ex {H H' : Hp} (e : Ex H H') : ∀ {d : D} {v : V}, Rep H d v → Rep H' d v
  | .non, _, h => h
  | .bl _, _, h => h
  | .int _, _, h => h
  | .str _, _, h => h
  | .tup ds, _, h => by
    simp only [Rep] at h ⊢
    obtain ⟨a, vs, r, ha, hr⟩ := h
    exact ⟨a, vs, r, e _ _ ha, Reps.ex e hr⟩
  | .lst ds, _, h => by
    simp only [Rep] at h ⊢
    obtain ⟨a, vs, r, ha, hr⟩ := h
    exact ⟨a, vs, r, e _ _ ha, Reps.ex e hr⟩
theorem Reps.ex {H H' : Hp} (e : Ex H H') : ∀ {ds : List D} {vs : List V}, Reps H ds vs → Reps H' ds vs
  | [], _, h => h
  | d :: ds, _, h => by
    simp only [Reps] at h ⊢
    obtain ⟨v, r, x, h1, h2⟩ := h
    exact ⟨v, r, x, Rep.ex e h1, Reps.ex e h2⟩
end
mutual
theorem Rep.tk {H H' : Hp} (e : Tk H H') : ∀ {d : D} {v : V}, d.hard = true → Rep H d v → Rep H' d v
  | .non, _, _, h => h
  | .bl _, _, _, h => h
  | .int _, _, _, h => h
  | .str _, _, _, h => h
  | .lst _, _, z, _ => by simp [D.hard] at z
  | .tup ds, _, z, h => by
    simp only [D.hard] at z
    simp only [Rep] at h ⊢
    obtain ⟨a, vs, r, ha, hr⟩ := h
    exact ⟨a, vs, r, e _ _ ha, Reps.tk e z hr⟩
theorem Reps.tk {H H' : Hp} (e : Tk H H') : ∀ {ds : List D} {vs : List V}, D.hards ds = true → Reps H ds vs → Reps H' ds vs
  | [], _, _, h => h
  | d :: ds, _, z, h => by
    simp only [D.hards, Bool.and_eq_true] at z
    simp only [Reps] at h ⊢
    obtain ⟨v, r, x, h1, h2⟩ := h
    exact ⟨v, r, x, Rep.tk e z.1 h1, Reps.tk e z.2 h2⟩
end
theorem Reps.len {H : Hp} : ∀ {ds : List D} {vs : List V}, Reps H ds vs → vs.length = ds.length
  | [], _, h => by simp only [Reps] at h; rw [h]; rfl
  | d :: ds, _, h => by
    simp only [Reps] at h
    obtain ⟨v, r, x, _, h2⟩ := h
    rw [x, List.length_cons, List.length_cons, Reps.len h2]
theorem Reps.get {H : Hp} : ∀ {ds : List D} {vs : List V} {i : Nat} {v : V}, Reps H ds vs → vs[i]? = some v → ∃ d, ds[i]? = some d ∧ Rep H d v
  | [], _, i, v, h, e => by simp only [Reps] at h; rw [h] at e; simp at e
  | d :: ds, _, 0, v, h, e => by
    simp only [Reps] at h
    obtain ⟨u, r, x, h1, _⟩ := h
    rw [x] at e
    simp at e
    exact ⟨d, rfl, e ▸ h1⟩
  | d :: ds, _, i + 1, v, h, e => by
    simp only [Reps] at h
    obtain ⟨u, r, x, _, h2⟩ := h
    rw [x] at e
    obtain ⟨d', e', r'⟩ := Reps.get (i := i) h2 (by simpa using e)
    exact ⟨d', by simpa using e', r'⟩
theorem Reps.at {H : Hp} : ∀ {ds : List D} {vs : List V} {i : Nat} {d : D}, Reps H ds vs → ds[i]? = some d → ∃ v, vs[i]? = some v ∧ Rep H d v
  | [], _, i, d, h, e => by simp at e
  | d :: ds, _, 0, d', h, e => by
    simp only [Reps] at h
    obtain ⟨u, r, x, h1, _⟩ := h
    simp at e
    exact ⟨u, by rw [x]; rfl, e ▸ h1⟩
  | d :: ds, _, i + 1, d', h, e => by
    simp only [Reps] at h
    obtain ⟨u, r, x, _, h2⟩ := h
    obtain ⟨v', e', r'⟩ := Reps.at (i := i) h2 (by simpa using e)
    exact ⟨v', by rw [x]; simpa using e', r'⟩
theorem Reps.append {H : Hp} : ∀ {ds es : List D} {vs ws : List V}, Reps H ds vs → Reps H es ws → Reps H (ds ++ es) (vs ++ ws)
  | [], _, _, _, h, g => by simp only [Reps] at h; rw [h]; exact g
  | d :: ds, es, _, ws, h, g => by
    simp only [Reps] at h
    obtain ⟨v, r, x, h1, h2⟩ := h
    rw [x]
    simp only [List.cons_append, Reps]
    exact ⟨v, r ++ ws, rfl, h1, Reps.append h2 g⟩

/-! ### weaker readings -/
section
variable {X : Cx}
theorem pe_imp {e : Expr} {t t' : TE} (h : PE X e t) (w : ∀ σ H Q, t' σ H Q → t σ H Q) : PE X e t' := ⟨fun pins s σ H Q I q => h.run pins s σ H Q I (w σ H Q q)⟩
theorem pt_imp {e : Expr} {t t' : TT} (h : PT X e t) (w : ∀ σ H Q, t' σ H Q → t σ H Q) : PT X e t' := ⟨fun pins s σ H Q I q => h.run pins s σ H Q I (w σ H Q q)⟩
theorem pw_imp {e : Expr} {t t' : TT} (h : PW X e t) (w : ∀ σ H Q, t' σ H Q → t σ H Q) : PW X e t' := ⟨fun wh pins s σ H Q I q => h.run wh pins s σ H Q I (w σ H Q q)⟩
theorem ps_imp {e : Stmt} {t t' : TS} (h : PS X e t) (w : ∀ D σ H, t' D σ H → t D σ H) : PS X e t' := ⟨fun pins s σ H D I q => h.run pins s σ H D I (w D σ H q)⟩
theorem pi_imp {tg e : Expr} {t t' : TI} (h : PI X tg e t) (w : ∀ σ H R, t' σ H R → t σ H R) : PI X tg e t' := ⟨fun pins s σ H R I q => h.run pins s σ H R I (w σ H R q)⟩
theorem pi_or {tg e : Expr} {t t' : TI} (h : PI X tg e t) (h' : PI X tg e t') : PI X tg e (fun σ H R => t σ H R ∨ t' σ H R) := ⟨fun pins s σ H R I q => by
  rcases q with q | q
  · exact h.run pins s σ H R I q
  · exact h'.run pins s σ H R I q⟩
theorem pe_or {e : Expr} {t t' : TE} (h : PE X e t) (h' : PE X e t') : PE X e (fun σ H R => t σ H R ∨ t' σ H R) := ⟨fun pins s σ H R I q => by
  rcases q with q | q
  · exact h.run pins s σ H R I q
  · exact h'.run pins s σ H R I q⟩

/-- the name that stands in the i-th slot -/
def uV (i : Nat) : TE := fun σ H Q => match σ[i]? with
  | some (some v) => Q v H
  | _ => False
theorem uv (i : Nat) {x : Str} {pos : Pos} (hN : X.N[i]? = some x := by rfl) (hv : Vis X.env.scope x := by first | exact Or.inl rfl | exact Or.inr (Or.inl rfl) | exact Or.inr (Or.inr rfl))
    (hd : (x == ("__debug__" : Str)) = false := by decide) (hcd : (x == ("__classdict__" : Str)) = false := by decide) : PE X (.Name x pos) (uV i) :=
  pe_imp (pv i hN hv hd hcd) fun σ H Q h => by
    unfold uV at h
    split at h
    · exact ⟨_, by assumption, h⟩
    · exact h.elim
theorem g_var {σ : L2.St} {i : Nat} {v : V} {H : Hp} {Q : VK} (e : σ[i]? = some (some v)) (q : Q v H) : uV i σ H Q := by
  unfold uV
  rw [e]
  exact q

/-- a value's truth -/
def uTru (K : PySem.W.Frag) (x : V) (H : Hp) (Q : Bool → Hp → Prop) : Prop := match x with
  | .bl k => Q k H
  | .int i => Q (i != 0) H
  | .non => Q false H
  | .str y => y.length ≤ sizeLine ∧ Q ((y.length : Int) != 0) H
  | .ref p => ∃ k, TruV K (.ref p) H k ∧ Q k H
  | _ => False
theorem uTru_of {K : PySem.W.Frag} {x : V} {H : Hp} {Q : Bool → Hp → Prop} (h : uTru K x H Q) : ∃ k, TruV K x H k ∧ Q k H := by
  unfold uTru at h
  split at h
  · exact ⟨_, rfl, h⟩
  · exact ⟨_, rfl, h⟩
  · exact ⟨_, rfl, h⟩
  · exact ⟨_, ⟨h.1, rfl⟩, h.2⟩
  · exact h
  · exact h.elim
/-- a value as a test -/
def uT (K : PySem.W.Frag) (te : TE) : TT := fun σ H Q => te σ H fun x H1 => uTru K x H1 Q
theorem ut {e : Expr} {te : TE} (h : PE X e te) (he : ∀ whole, isTrue e X.env whole = (do let v ← whole; standAt e.pos; holding [v] (truthy v)) := by intro _; rfl) : PT X e (uT X.K te) := by
  refine ⟨fun pins s σ H Q I q => ?_⟩
  refine isTrue_plain (thn (h.run pins s σ H _ I q) fun v s1 z => ?_) (he _)
  obtain ⟨x, H1, I1, r1, q1⟩ := z
  exact tru_ok pins s1 σ H1 x v Q I1 r1 (uTru_of q1)

/-! ### operators -/
def uAdd (K : PySem.W.Frag) : R2 := fun x y H Q => match x, y with
  | .int i, .int j => Q (.int (i + j)) H
  | .str a, .str b => a.length + b.length ≤ sizeLine ∧ Q (.str (a ++ b)) H
  | .ref p, .ref q => rCat (.ref p) (.ref q) H Q ∨ rCatA K (.ref p) (.ref q) H Q
  | _, _ => False
theorem uo_add : OpR X (binaryOp .Add) (uAdd X.K) := by
  intro pins s σ H x y v u Q I rx ry h
  unfold uAdd at h
  split at h
  · exact op_add pins s σ H _ _ v u Q I rx ry ⟨_, _, rfl, rfl, h⟩
  · exact op_add_str pins s σ H _ _ v u Q I rx ry ⟨_, _, rfl, rfl, h⟩
  · rcases h with h | h
    · exact op_cat pins s σ H _ _ v u Q I rx ry h
    · exact op_catA pins s σ H _ _ v u Q I rx ry h
  · exact h.elim
/-- two ints in -/
def uI (C : Int → Int → Prop) (g : Int → Int → V) : R2 := fun x y H Q => match x, y with
  | .int i, .int j => C i j ∧ Q (g i j) H
  | _, _ => False
def uI0 (g : Int → Int → V) : R2 := fun x y H Q => match x, y with
  | .int i, .int j => Q (g i j) H
  | _, _ => False
theorem ui_of {f : Value → Value → Sem Value} {C : Int → Int → Prop} {g : Int → Int → V} (h : OpR X f (rI C g)) : OpR X f (uI C g) := by
  intro pins s σ H x y v u Q I rx ry q
  unfold uI at q
  split at q
  · exact h pins s σ H _ _ v u Q I rx ry ⟨_, _, rfl, rfl, q.1, q.2⟩
  · exact q.elim
theorem ui0_of {f : Value → Value → Sem Value} {g : Int → Int → V} (h : OpR X f (rI0 g)) : OpR X f (uI0 g) := by
  intro pins s σ H x y v u Q I rx ry q
  unfold uI0 at q
  split at q
  · exact h pins s σ H _ _ v u Q I rx ry ⟨_, _, rfl, rfl, q⟩
  · exact q.elim
abbrev uSub : R2 := uI0 fun i j => .int (i - j)
theorem uo_sub : OpR X (binaryOp .Sub) uSub := ui0_of op_sub
def CMm (i j : Int) : Prop := CMul i j ∨ CMulW i j
abbrev uMul : R2 := uI CMm fun i j => .int (i * j)
theorem uo_mul : OpR X (binaryOp .Mult) uMul := by
  refine ui_of (opI fun _ _ _ _ _ _ _ hc q => ?_)
  rcases hc with hc | hc
  · exact mul_int q hc.ok
  · exact mul_int q hc.ok
theorem mulL {i j : Int} (h : i.natAbs.log2 < 1000) (h2 : j.natAbs.log2 < 900000) : CMulW i j := by
  show _ < _
  omega
/-- // by anything but nought below 2 ^ 9000 -/
def CFd (_ j : Int) : Prop := j ≠ 0 ∧ j.natAbs.log2 < 9000
theorem op_fd : OpR X (binaryOp .FloorDiv) (rI CFd fun i j => .int (i.fdiv j)) := opI fun i j _ _ _ _ _ hc q => floordiv_int hc.1 q (.inl (PyProof.noPylong_of_log2 hc.2))
abbrev uFd : R2 := uI CFd fun i j => .int (i.fdiv j)
theorem uo_fd : OpR X (binaryOp .FloorDiv) uFd := ui_of op_fd
abbrev uMod : R2 := uI (fun _ j => j ≠ 0) fun i j => .int (i.fmod j)
theorem uo_mod : OpR X (binaryOp .Mod) uMod := ui_of op_modN
abbrev uPow : R2 := uI CPow fun i j => .int (i ^ j.toNat)
theorem uo_pow : OpR X (binaryOp .Pow) uPow := ui_of op_pow
abbrev uLt : R2 := uI0 fun i j => .bl (decide (i < j))
theorem uo_lt : OpR X (compareOp .Lt) uLt := ui0_of op_lt
abbrev uLe : R2 := uI0 fun i j => .bl (decide (i ≤ j))
theorem uo_le : OpR X (compareOp .LtE) uLe := ui0_of op_le
abbrev uGt : R2 := uI0 fun i j => .bl (decide (j < i))
theorem uo_gt : OpR X (compareOp .Gt) uGt := ui0_of op_gt
abbrev uGe : R2 := uI0 fun i j => .bl (decide (j ≤ i))
theorem uo_ge : OpR X (compareOp .GtE) uGe := ui0_of op_ge
def uNeg : V → Hp → VK → Prop := fun x H Q => match x with
  | .int i => Q (.int (-i)) H
  | _ => False
theorem uu_neg : UnR X (unaryOp .USub) uNeg := by
  intro pins s σ H x v Q I rx q
  unfold uNeg at q
  split at q
  · exact un_neg pins s σ H _ v Q I rx ⟨_, rfl, q⟩
  · exact q.elim
/-- x is None, x is not None (y is the None) -/
def uIsN : R2 := fun x y H Q => y = .non ∧ Q (.bl (decide (x = .non))) H
def uNotN : R2 := fun x y H Q => y = .non ∧ Q (.bl (!decide (x = .non))) H
theorem uo_isN : OpR X (compareOp .Is) uIsN := op_isN
theorem uo_notN : OpR X (compareOp .IsNot) uNotN := op_notN

/-! ### len, subscripts -/
def LenR (K : PySem.W.Frag) (H : Hp) (p : Addr) (n : Nat) : Prop := (∃ ys, (SqL K H p ys ∨ SqT K H p ys) ∧ n = ys.length) ∨ ∃ kvs, H p = some (.dK kvs) ∧ n = kvs.length
def uLen (K : PySem.W.Frag) : List V → Hp → VK → Prop := fun xs H Q => match xs with
  | [.str z] => z.length ≤ sizeLine ∧ Q (.int z.length) H
  | [.ref p] => ∃ n : Nat, LenR K H p n ∧ Q (.int n) H
  | _ => False
theorem uk_len : CallR X (.builtin "len") (uLen X.K) := by
  intro pins s σ H xs us Q I r h
  unfold uLen at h
  split at h
  · exact call_len_str pins s σ H _ us Q I r ⟨_, rfl, h.1, h.2⟩
  · obtain ⟨n, h, q⟩ := h
    rcases h with ⟨ys, h, e⟩ | ⟨kvs, h, e⟩
    · subst e
      exact call_len_seq pins s σ H _ us Q I r ⟨_, _, rfl, h, q⟩
    · subst e
      exact call_lenD pins s σ H _ us Q I r ⟨_, _, rfl, h, q⟩
  · exact h.elim
def uIx (K : PySem.W.Frag) : R2 := fun x y H Q => match x, y with
  | .ref p, .int i => ∃ xs v, (SqL K H p xs ∨ SqT K H p xs) ∧ atI xs i = some v ∧ Q v H
  | .str z, .int i => z.length ≤ sizeLine ∧ ∃ c, atI z.cps.toList i = some c ∧ Q (.str ⟨#[c]⟩) H
  | _, _ => False
theorem ux_seq : IxR X (uIx X.K) := by
  intro value slice pins s σ H x y v u Q I rx ry q hs
  unfold uIx at q
  split at q
  · obtain ⟨xs, w, hq, a, q⟩ := q
    refine ix_seq value slice pins s σ H _ _ v u Q I rx ry ?_ hs
    rcases hq with hq | hq
    · exact .inl ⟨_, xs, _, w, rfl, rfl, hq, a, q⟩
    · exact .inr (.inl ⟨_, xs, _, w, rfl, rfl, hq, a, q⟩)
  · obtain ⟨z, c, a, q⟩ := q
    exact ix_seq value slice pins s σ H _ _ v u Q I rx ry (.inr (.inr ⟨_, _, c, rfl, rfl, z, a, q⟩)) hs
  · exact q.elim

/-! ### what a for walks: a list or a tuple -/
def uSeq (K : PySem.W.Frag) (td : TE) : TI := fun σ H R => iList K td σ H R ∨ iTup K td σ H R
theorem ui_seq {tg e : Expr} {td : TE} (h : PE X e td) : PI X tg e (uSeq X.K td) := pi_or (pi_list h) (pi_tup h)
end
end Bk

set_option Elab.async false
set_option linter.all false
set_option maxRecDepth 100000
set_option maxHeartbeats 4000000
/-! Bk2: own errors over any built-in base, made by their own __init__. -/
namespace Bk
open PySem PySem.Spec PyProof.Rows L2
/-- what the written part says of an own error's class: newId, bmB of its built-in base -/
structure OexB (K : PySem.W.Frag) (C : Addr) (newId : String) (bmB : List Value) : Prop where
  cls : ∃ nm q N bs bm sn sub ab col dd k0 k1 k2 k3 k5, K.lookup C = some (excClassObj nm q C N bs bm true sn sub ab col dd k0 k1 k2 k3 k5 newId) ∧ ∀ Y : String, bm.contains (.type Y) = bmB.contains (.type Y)
  exC : PySem.W.subIn K (.ref C) (.type "BaseException") = some true
  tyC : PySem.W.typeIn K (.ref C) = some (.type "type")
  kC : PySem.W.keepIn K (.ref C) = true
section
variable {X : Cx} {pins : List (Addr × Obj)} {σ : L2.St} {H : Hp} {s : Shared} {a C : Addr} {B newId initId : String} {bmB : List Value}
/-- B.__init__(self, ..) over an error that has no dict as yet -/
theorem ginit_ok {A : Around} {E : Value → Shared → Prop} {us : List Value} {Q : Value → Shared → Prop} (F : ExcBaseFacts B newId initId bmB) (T : OexB X.K C newId bmB) (I : Inv X pins σ H s) (e : H a = some (exo a C none)) (hl : us.length ≤ sizeLine)
    (h : ∀ s', Inv X pins σ H s' → Q .none s') : wpAny (model X.prog X.w) A (call (.builtin initId) (.ref a :: us)) Q E s := by
  obtain ⟨nm, q, N, bs, bm, sn, sub, ab, col, dd, k0, k1, k2, k3, k5, hC, hT⟩ := T.cls
  obtain ⟨t1, ho⟩ := exo_at I.hok e
  obtain ⟨hp, g, d, t, os⟩ := s
  refine wpAny_call (PySem.HandSPX.init_base F hT (I.kIn _ _ hC) ho hl fun h' t2 k hx => ?_)
  have J := I.write (t' := t) (x := a) (e := a) (o := exo a C none) (by rw [e]; exact True.intro) (.inl rfl) k ⟨_, hx⟩ (exo_ok hx)
  have eu : upd H a (exo a C none) = H := funext fun b => by
    by_cases hb : b = a
    · rw [hb, upd_same, e]
    · rw [upd_ne hb]
  rw [eu] at J
  exact h _ J
/-- T.__init__(self, ..), T a built-in class of errors, or an own one that has it from there -/
def uXIk (K : PySem.W.Frag) (newId : String) (bmB : List Value) : List V → Hp → VK → Prop := fun vs H1 Q => match vs with
  | .ref a :: ws => ∃ C, ws.length ≤ 1000 ∧ OexB K C newId bmB ∧ H1 a = some (exo a C none) ∧ Q .non H1
  | _ => False
def uXI (K : PySem.W.Frag) (newId : String) (bmB : List Value) (ta : TA) : TE := fun σ H Q => ta σ H fun vs H1 => uXIk K newId bmB vs H1 Q
theorem uXI_end {F0 : ExcBaseFacts B newId initId bmB} {us : List Value} {vs : List V} {Q : VK} (I : Inv X pins σ H s) (r : Vals vs us)
    (h : uXIk X.K newId bmB vs H Q) :
    wpAny (model X.prog X.w) X.A (call (.builtin initId) us) (EP X pins σ Q) X.xe s := by
  unfold uXIk at h
  split at h
  · obtain ⟨C, hl, T, ea, q⟩ := h
    cases r with
    | @cons _ u0 _ ur ra rw' =>
      obtain rfl : u0 = Value.ref _ := ra
      have hlen : ur.length ≤ sizeLine := by
        rw [← Paired.length rw', sizeLine_eq]
        omega
      exact ginit_ok F0 T I ea hlen fun s' J => ⟨.non, H, J, rfl, q⟩
  · exact h.elim
variable {e : Expr} {es : List Expr} {ta : TA} {p1 p2 pos : Pos} {x : Str}
theorem pe_xinitB {T : String} {pl : Sem Bool} (F : ExcBaseFacts B newId initId bmB) (ty : typeOf (.type T) = pure (.type "type")) (ns : Manifest.isStub T = false) (hg : Gl X x) (hm : X.mg x = none) (hv : bootBuiltins x = some (.type T))
    (vV : PySem.W.findCls X.K (.type T) (.type "type") "__init__" = some (.val (.builtin initId))) (hh : PySem.W.handedIn (.builtin initId) = true) (ha : PA X (e :: es) ta) (hn : x ≠ "__name__" := by decide) (hd : (x == ("__debug__" : Str)) = false := by decide)
    (hc : eval (.Call (.Attribute (.Name x p1) "__init__" p2) (e :: es) [] pos) X.env = (do
      let ov ← eval (.Name x p1) X.env
      standAt p2.atName
      let (f, first) ← holding [ov] (getMethod ov "__init__" pl)
      callWith pos f first (backTo pos (starEach (e :: es) X.env)) (backToKw pos (keywordEach [] X.env))) := by rfl)
    (he : starEach (e :: es) X.env = (false, eval e X.env) :: starEach es X.env := by rfl) (hpl : (backTo pos (starEach es X.env)).any (·.1) = false := by rfl) :
    PE X (.Call (.Attribute (.Name x p1) "__init__" p2) (e :: es) [] pos) (uXI X.K newId bmB ta) := by
  refine ⟨fun pins s σ H Q I h => ?_⟩
  refine PySem.W.methodCall_KW (ld_blt I hg hm hv ?_ hn hd) hc
  obtain ⟨m, fr⟩ := I.fr
  refine PySem.W.method_type fr I.ok.mod.kin ty ns vV hh ?_
  show wpAny _ _ (callWith pos (Value.builtin initId) [] (backTo pos (starEach (e :: es) X.env)) []) _ _ _
  refine PyProof.Rows.callWith_method1 (thn (ha.run pos pins _ σ H _ (I.tok _) h) fun us s1 z => ?_) he hpl
  obtain ⟨vs, H1, I1, r1, q⟩ := z
  exact uXI_end (F0 := F) I1 r1 q
/-- how an own class hands out its base's __init__ -/
structure XiC (K : PySem.W.Frag) (D : Addr) (initId : String) : Prop where
  ga : PySem.W.specialIn K (.ref D) "__getattribute__" = some (some (.builtin "type.__getattribute__"))
  rd : PySem.W.readsIn K D (.type "type") = true
  at_ : PySem.W.findCls K (.ref D) (.type "type") "__init__" = some (.val (.builtin initId))
theorem pe_xinitO {D : Addr} {pl : Sem Bool} (F : ExcBaseFacts B newId initId bmB) (k : XiC X.K D initId) (hh : PySem.W.handedIn (.builtin initId) = true) (hg : Gl X x) (hm : X.mg x = some (.ref D)) (ha : PA X (e :: es) ta) (hd : (x == ("__debug__" : Str)) = false := by decide)
    (hc : eval (.Call (.Attribute (.Name x p1) "__init__" p2) (e :: es) [] pos) X.env = (do
      let ov ← eval (.Name x p1) X.env
      standAt p2.atName
      let (f, first) ← holding [ov] (getMethod ov "__init__" pl)
      callWith pos f first (backTo pos (starEach (e :: es) X.env)) (backToKw pos (keywordEach [] X.env))) := by rfl)
    (he : starEach (e :: es) X.env = (false, eval e X.env) :: starEach es X.env := by rfl) (hpl : (backTo pos (starEach es X.env)).any (·.1) = false := by rfl) :
    PE X (.Call (.Attribute (.Name x p1) "__init__" p2) (e :: es) [] pos) (uXI X.K newId bmB ta) := by
  refine ⟨fun pins s σ H Q I h => ?_⟩
  refine PySem.W.methodCall_KW (ld_glob I hg hm ?_ hd) hc
  refine PySem.W.method_cls I.kIn k.ga (PySem.W.cls_value I.kIn k.rd k.at_ hh ?_)
  show wpAny _ _ (callWith pos (Value.builtin initId) [] (backTo pos (starEach (e :: es) X.env)) []) _ _ _
  refine PyProof.Rows.callWith_method1 (thn (ha.run pos pins _ σ H _ (I.tok _) h) fun us s1 z => ?_) he hpl
  obtain ⟨vs, H1, I1, r1, q⟩ := z
  exact uXI_end (F0 := F) I1 r1 q

/-- the end of C(..) where no field was stored: the error is let go -/
theorem gone_end {H1 : Hp} {hp hp2 h2 : Heap} {g1 g2 : Array GenState} {d1 d2 : Drawn} {t1 t2 : Nat} {os1 os2 : OsState} {Q : XK} (T : Raises X (.ref C)) (I1 : Inv X pins σ H1 ⟨hp, g1, d1, t1, os1⟩)
    (ha : hp.objs.size ≤ a) (k : ∀ b o, hp.get? b = some o → hp2.get? b = some o) (un : Un (frs X.stack) [] (upd H1 a (exo a C none)) (upd H1 a (exo a C none)) hp2 h2) (hok : HOk X.prog X.w (upd H1 a (exo a C none)) h2) (ho : os2 = os1) (hb : AllBare g2)
    (q : Q (.ref C) none H1) : MkP X pins σ Q (.ref a) ⟨h2, g2, d2, t2, os2⟩ := by
  have ea : upd H1 a (exo a C none) a = some (exo a C none) := upd_same
  obtain ⟨t0, hoe⟩ := exo_at hok ea
  have hn : H1 a = none := I1.hok.fresh ha
  obtain ⟨G, g1', g2'⟩ := restrict h2 fun b => decide (b ≠ a)
  have gk : ∀ b, b ≠ a → G.get? b = h2.get? b := fun b hb => g1' b (decide_eq_true hb)
  have ge : G.get? a = none := g2' a (by simp)
  have nha : ∀ {b : Addr} {o : Obj}, hp.get? b = some o → b ≠ a := fun {b o} z => Nat.ne_of_lt (Nat.lt_of_lt_of_le (Heap.lt_size z) ha)
  have up : ∀ {b : Addr}, b ≠ a → H1 b = none → upd H1 a (exo a C none) b = none := fun {b} hb n => by rw [upd_ne hb]; exact n
  have U : Un (frs X.stack) [] H1 H1 hp G := {
    keep := fun b o z n hf hx => (gk b (nha z)).trans (un.keep b o (k b o z) (up (nha z) n) hf hx)
    slot := fun b o z n hf hx => by
      rw [gk b (nha z)]
      exact un.slot b o (k b o z) (up (nha z) n) hf hx
    free := fun b o z n hx => n
    there := fun b o z hx => by
      rw [gk b (nha z)]
      exact un.there b o (k b o z) hx
    tups := fun b xs z => z
    frzs := fun b o v z => z
    tbls := fun b ps z => ⟨#[], by rw [z]; simp⟩ }
  have hok3 : HOk X.prog X.w H1 G := fun b o z => by
    have hba : b ≠ a := ne_of_none z hn
    have z2 : upd H1 a (exo a C none) b = some o := by rw [upd_ne hba]; exact z
    refine (hok b o z2).stay (fun c v hc y => ?_) (fun c hc => ?_) (fun c xs hc => ?_)
    · have hca : c ≠ a := by
        rcases hc with hc | hc
        · rw [hc]; exact hba
        · exact at_ne ea hc exo_own
      rw [gk c hca]
      exact y
    · rw [upd_ne (at_ne ea hc exo_own)] at hc
      exact hc
    · rw [upd_ne (at_ne ea hc exo_tup)] at hc
      exact hc
  have J : Inv X pins σ H1 ⟨G, g2, d2, t2, os2⟩ := I1.call' (ch := []) ho U hok3 hb (fun b z => absurd z (by simp))
  refine ⟨a, _, _, ⟨G, g2, d2, t2, os2⟩, _, .ref C, none, rfl, J, fun b o z => ?_, ge, hoe, ⟨rfl, rfl⟩, rfl, rfl, hn, rfl, hb, T, q⟩
  by_cases hba : b = a
  · have z' : G.get? b = some o := z
    rw [hba, ge] at z'
    cases z'
  · exact (gk b hba).symm.trans z
/-- C(): its own __init__ keeps sp and stores nothing -/
def uMk0 (C : Addr) (sp : Sp) : L2.St → Hp → XK → Prop := fun σ H Q => ∀ a, H a = none → sp [.ref a] (upd H a (exo a C none)) (fun v H2 => v = .non ∧ H2 = upd H a (exo a C none) ∧ Q (.ref C) none H) (fun _ _ _ => False)
theorem pmk_x0 {CX : CXT} {p : Pos} {fI : Addr} {k : Nat} {fd : FuncData} {ps : List Str} {sp : Sp} (F : ExcBaseFacts B newId initId bmB) (T : OexB X.K C newId bmB) (iC : PySem.W.findIn X.K (.ref C) "__init__" = some (some (.ref fI))) (tI : PySem.W.typeIn X.K (.ref fI) = some (.type "function"))
    (F1 : FnOk X.prog X.w X.K X.mg X.base CX k fI fd ps sp) (hr : Room (k + 1) X.A) (hb : Binds X.K fd ps []) (hx : Passes CX X (fun _ _ _ => False)) (hm : X.mg x = some (.ref C)) (hg : Gl X x)
    (hdb : (x == ("__debug__" : Str)) = false := by decide) : PMk X (.Call (.Name x p) [] [] pos) (uMk0 C sp) := by
  intro pins s σ H Q I h
  obtain ⟨nm, q, N, bs, bm, sn, sub, ab, col, dd, k0, k1, k2, k3, k5, hC, hT⟩ := T.cls
  refine wpAny_Call_Name_kw (ld_glob I hg hm ?_ hdb)
  refine PySem.W.callWith_K0 I.kIn T.kC ?_
  obtain ⟨hp, g, dr, tk, os⟩ := s
  have hsz : hp.objs.size ≤ hp.objs.size + 1 := Nat.le_succ _
  have hn : H (hp.objs.size + 1) = none := I.hok.fresh hsz
  have hq := h (hp.objs.size + 1) hn
  have kk : ∀ b o, hp.get? b = some o → ((hp.push (PySem.W.kdv_tup [])).push (PySem.HandSPX.excO C hp.objs.size)).get? b = some o := fun b o e => Heap.get?_push_of_some _ (Heap.get?_push_of_some _ e)
  have hget : ((hp.push (PySem.W.kdv_tup [])).push (PySem.HandSPX.excO C hp.objs.size)).get? (hp.objs.size + 1) = some (PySem.HandSPX.excO C hp.objs.size) := by heap_get
  have I2 : Inv X pins σ (upd H (hp.objs.size + 1) (exo (hp.objs.size + 1) C none)) ⟨(hp.push (PySem.W.kdv_tup [])).push (PySem.HandSPX.excO C hp.objs.size), g, dr, tk, os⟩ :=
    I.laid (t' := tk) (a := hp.objs.size + 1) (o := exo (hp.objs.size + 1) C none) (h' := (hp.push (PySem.W.kdv_tup [])).push (PySem.HandSPX.excO C hp.objs.size)) kk hsz (exo_ok hget)
  have r2 : Vals [V.ref (hp.objs.size + 1)] [Value.ref (hp.objs.size + 1)] := .cons rfl .nil
  have hl : ([Value.ref (hp.objs.size + 1)] ++ []).length = ps.length := (F1.len _ _ _ _ hq).symm.symm
  refine wpAny_call (PySem.HandSPX.call_own F hT (I.kIn _ _ hC) (PySem.W.looks_findIn I.kIn iC) (fun self => PySem.W.bind_fn I.kIn self tI) (Nat.zero_le _)
    (codeAny_mono (F1.run _ X.stack _ _ ⟨[Value.ref (hp.objs.size + 1)], []⟩ [Value.ref (hp.objs.size + 1)] _ _ (fun _ _ _ => False) (hr.make C [] []) (I2.env0.make C [] []) (hb _ [Value.ref (hp.objs.size + 1)] I2.kIn hl) r2 hq) fun r s' hq' => ?_))
  cases r with
  | error er => exact hx pins σ _ _ er s' I2 hq'
  | ok fl =>
    cases fl with
    | ret u =>
      obtain ⟨v, H2, os2, bare2, un2, hok2, rv, ev, eH, q2⟩ := hq'
      subst ev
      subst eH
      obtain ⟨h2, g2, d2, t2, os'⟩ := s'
      exact ⟨rv, gone_end (raises_own T.exC T.tyC) I hsz kk un2 hok2 os2 bare2 q2⟩
    | next => exact False.elim hq'
    | brk => exact False.elim hq'
    | cont => exact False.elim hq'
end
end Bk

set_option Elab.async false
set_option linter.all false
set_option maxRecDepth 100000
set_option maxHeartbeats 4000000
/-! Bk3: list(zip(a, b)) of two tuples or two lists. -/
namespace Bk
open PySem PySem.Spec PyProof.Rows L2
section
variable {prog : Program} {w : World} {A : Around} {E : Value → Shared → Prop} {s : Shared}
/-- k: two tuples, else two lists: an iterator over xs at place i -/
def SIt (h : Heap) (k : Bool) (it l : Addr) (i : Nat) (xs : Array Value) : Prop := match k with
  | true => h.IsTupleIter it l i ∧ h.IsTuple l xs
  | false => h.IsListIter it l i ∧ h.IsList l xs
theorem SIt.keep {h h' : Heap} {k : Bool} {it l : Addr} {i : Nat} {xs : Array Value} (x : SIt h k it l i xs) (ki : ∀ o, h.get? it = some o → h'.get? it = some o) (kl : ∀ o, h.get? l = some o → h'.get? l = some o) : SIt h' k it l i xs := by
  cases k with
  | true =>
    obtain ⟨⟨o, e1, e2⟩, ⟨o', f1, f2⟩⟩ := x
    exact ⟨⟨o, ki o e1, e2⟩, ⟨o', kl o' f1, f2⟩⟩
  | false =>
    obtain ⟨⟨o, e1, e2⟩, ⟨o', f1, f2⟩⟩ := x
    exact ⟨⟨o, ki o e1, e2⟩, ⟨o', kl o' f1, f2⟩⟩
theorem SIt.step {h h' : Heap} {k : Bool} {it l : Addr} {i : Nat} {xs : Array Value} (x : SIt h k it l i xs) (hn : l ≠ it) (ki : match k with | true => h'.IsTupleIter it l (i + 1) | false => h'.IsListIter it l (i + 1)) (kl : Heap.SameBut it h h') : SIt h' k it l (i + 1) xs := by
  cases k with
  | true =>
    obtain ⟨_, ⟨o', f1, f2⟩⟩ := x
    exact ⟨ki, ⟨o', kl.extBut _ _ hn f1, f2⟩⟩
  | false =>
    obtain ⟨_, ⟨o', f1, f2⟩⟩ := x
    exact ⟨ki, ⟨o', kl.extBut _ _ hn f1, f2⟩⟩
theorem sit_item {k : Bool} {it l : Addr} {i : Nat} {xs : Array Value} {x : Value} {Q : Value → Shared → Prop} (hit : SIt s.heap k it l i xs) (hn : l ≠ it) (hx : xs[i]? = some x)
    (hQ : ∀ h', SIt h' k it l (i + 1) xs → Heap.SameBut it s.heap h' → Q x { s with heap := h' }) : wpAny (model prog w) A (Builtin.SmallTypes.nextOf (.ref it)) Q E s := by
  cases k with
  | true => exact RZ.nextOf_tuple_item hit.1 hit.2 hx fun h' a b => hQ h' (hit.step hn a b) b
  | false => exact wpAny_nextOf_list_item hit.1 hit.2 hx fun h' a b => hQ h' (hit.step hn a b) b
theorem sit_end {k : Bool} {it l : Addr} {i : Nat} {xs : Array Value} {Q : Value → Shared → Prop} (hh : A.handled = none) (hit : SIt s.heap k it l i xs) (hx : xs[i]? = none)
    (hE : ∀ h' e, Heap.ExtBut it s.heap h' → (∃ o, h'.get? e = some o ∧ o.cls = .type "StopIteration") → E (.ref e) { s with heap := h' }) : wpAny (model prog w) A (Builtin.SmallTypes.nextOf (.ref it)) Q E s := by
  cases k with
  | true => exact RZ.nextOf_tuple_end hh hit.1 hit.2 hx hE
  | false => exact wpAny_nextOf_list_end hh hit.1 hit.2 hx hE

/-- one turn while the tuple given out before is still there -/
theorem held_item {k : Bool} {z TI TO T i1 i2 l1 l2 : Addr} {f : Bool} {oT : Obj} {i : Nat} {xs ys : Array Value} {x y : Value} {Q : Value → Shared → Prop} (D : ZipApart z TI TO i1 i2 l1 l2)
    (hz : IsZipHeld s.heap z TI TO T f) (hT : s.heap.get? T = some oT) (hTI : IsPair s.heap TI (.ref i1) (.ref i2)) (h1 : SIt s.heap k i1 l1 i xs) (h2 : SIt s.heap k i2 l2 i ys) (hx : xs[i]? = some x) (hy : ys[i]? = some y)
    (hQ : ∀ h', IsZipHeld h' z TI TO T true → SIt h' k i1 l1 (i + 1) xs → SIt h' k i2 l2 (i + 1) ys → IsPair h' s.heap.objs.size x y → h'.objs.size = s.heap.objs.size + 1 →
      (∀ c o, c ≠ z → c ≠ i1 → c ≠ i2 → s.heap.get? c = some o → h'.get? c = some o) → Q (.ref s.heap.objs.size) { s with heap := h' }) :
    wpAny (model prog w) A (Builtin.«zip.__next__» ⟨[.ref z], []⟩) (fun fin s' => ∃ v, fin = .done (.ret v) ∧ Q v s') E s := by
  show wpAny _ _ (field (.ref z) 2 >>= _) _ _ _
  refine wpAny_bind (wpAny_field hz rfl (x := .bool false) rfl ?_)
  show wpAny _ _ (field (.ref z) 3 >>= _) _ _ _
  refine wpAny_bind (wpAny_field hz rfl (x := .ref TI) rfl ?_)
  refine wpAny_bind (wpAny_seqItems hTI rfl ?_)
  show wpAny _ _ (Builtin.SmallTypes.ownedTupleIsFree (.ref z) >>= _) _ _ _
  refine wpAny_bind (wpAny_tupleHeld_zip hz hT fun g1 z1 b1 => ?_)
  simp only [Bool.false_eq_true, if_false]
  refine wpAny_bind ?_
  rw [← Array.forIn_toList]
  simp only [List.forIn_cons, List.forIn_nil]
  refine wpAny_bind (wpAny_bind (wpAny_holding ?_))
  show wpAny _ _ (Builtin.SmallTypes.nextOf (.ref i1) >>= _) _ _ _
  have p1 : SIt g1 k i1 l1 i xs := h1.keep (fun o e => b1.extBut _ _ D.i1z e) fun o e => b1.extBut _ _ D.l1z e
  refine wpAny_bind (sit_item (s := { s with heap := g1 }) p1 D.l1i1 hx fun g2 q1 b2 => wpAny_pure ?_)
  refine wpAny_pure ?_
  refine wpAny_bind (wpAny_bind (wpAny_holding ?_))
  show wpAny _ _ (Builtin.SmallTypes.nextOf (.ref i2) >>= _) _ _ _
  have p2 : SIt g2 k i2 l2 i ys := (h2.keep (fun o e => b1.extBut _ _ D.i2z e) fun o e => b1.extBut _ _ D.l2z e).keep (fun o e => b2.extBut _ _ D.i12.symm e) fun o e => b2.extBut _ _ D.l2i1 e
  refine wpAny_bind (sit_item (s := { s with heap := g2 }) p2 D.l2i2 hy fun g3 q2 b3 => wpAny_pure ?_)
  refine wpAny_pure (wpAny_pure ?_)
  show wpAny _ _ (newTuple [x, y] >>= _) _ _ _
  refine wpAny_bind (wpAny_newTuple ?_)
  have hsz : g3.objs.size = s.heap.objs.size := by rw [b3.1, b2.1, b1.1]
  have z3 : IsZipHeld g3 z TI TO T true := b3.extBut _ _ D.i2z.symm (b2.extBut _ _ D.i1z.symm z1)
  have hk : ∀ c o, c ≠ z → c ≠ i1 → c ≠ i2 → s.heap.get? c = some o → g3.get? c = some o := fun c o c1 c2 c3 e => b3.extBut _ _ c3 (b2.extBut _ _ c2 (b1.extBut _ _ c1 e))
  have q3 : SIt g3 k i1 l1 (i + 1) xs := q1.keep (fun o e => b3.extBut _ _ D.i12 e) fun o e => b3.extBut _ _ D.l1i2 e
  refine wpAny_pure ⟨_, rfl, ?_⟩
  show Q (.ref g3.objs.size) _
  have hp : IsPair (g3.push { cls := .type "tuple", data := .seq #[x, y] }) g3.objs.size x y := Heap.get?_push_size _ rfl
  have z4 : (g3.push { cls := .type "tuple", data := .seq #[x, y] }).objs.size = g3.objs.size + 1 := Heap.size_push ..
  rw [hsz] at hp z4 ⊢
  exact hQ _ (Heap.get?_push_of_some _ z3) (q3.keep (fun o e => Heap.get?_push_of_some _ e) fun o e => Heap.get?_push_of_some _ e) (q2.keep (fun o e => Heap.get?_push_of_some _ e) fun o e => Heap.get?_push_of_some _ e) hp z4
    fun c o c1 c2 c3 e => Heap.get?_push_of_some _ (hk c o c1 c2 c3 e)
theorem held_end {k : Bool} {z TI TO T i1 i2 l1 l2 : Addr} {f : Bool} {oT : Obj} {i : Nat} {xs : Array Value} {Q : Fin → Shared → Prop} (hh : A.handled = none) (D : ZipApart z TI TO i1 i2 l1 l2)
    (hz : IsZipHeld s.heap z TI TO T f) (hT : s.heap.get? T = some oT) (hTI : IsPair s.heap TI (.ref i1) (.ref i2)) (h1 : SIt s.heap k i1 l1 i xs) (hx : xs[i]? = none)
    (hE : ∀ h' e, (∀ c o, c ≠ z → c ≠ i1 → c ≠ i2 → s.heap.get? c = some o → h'.get? c = some o) → (∃ o, h'.get? e = some o ∧ o.cls = .type "StopIteration") → E (.ref e) { s with heap := h' }) :
    wpAny (model prog w) A (Builtin.«zip.__next__» ⟨[.ref z], []⟩) Q E s := by
  show wpAny _ _ (field (.ref z) 2 >>= _) _ _ _
  refine wpAny_bind (wpAny_field hz rfl (x := .bool false) rfl ?_)
  show wpAny _ _ (field (.ref z) 3 >>= _) _ _ _
  refine wpAny_bind (wpAny_field hz rfl (x := .ref TI) rfl ?_)
  refine wpAny_bind (wpAny_seqItems hTI rfl ?_)
  show wpAny _ _ (Builtin.SmallTypes.ownedTupleIsFree (.ref z) >>= _) _ _ _
  refine wpAny_bind (wpAny_tupleHeld_zip hz hT fun g1 z1 b1 => ?_)
  simp only [Bool.false_eq_true, if_false]
  refine wpAny_bind ?_
  rw [← Array.forIn_toList]
  simp only [List.forIn_cons, List.forIn_nil]
  refine wpAny_bind (wpAny_bind (wpAny_holding ?_))
  show wpAny _ _ (Builtin.SmallTypes.nextOf (.ref i1) >>= _) _ _ _
  have p1 : SIt g1 k i1 l1 i xs := h1.keep (fun o e => b1.extBut _ _ D.i1z e) fun o e => b1.extBut _ _ D.l1z e
  refine wpAny_bind (sit_end (s := { s with heap := g1 }) hh p1 hx fun g2 e b2 he => ?_)
  exact hE g2 e (fun c o c1 c2 _ x => b2 _ _ c2 (b1.extBut _ _ c1 x)) he
theorem ne_lo {a b lo : Nat} (g : lo < a) (h : b ≤ lo) : a ≠ b := Nat.ne_of_gt (Nat.lt_of_le_of_lt h g)
/-- the zip at z over two such iterators; the tuple that is out stands above lo -/
structure ZSt (h : Heap) (k : Bool) (lo z TI TO i1 i2 l1 l2 : Addr) (i : Nat) (xs ys : Array Value) : Prop where
  zp : (IsZip h z TI TO .none ∧ IsPair h TO .none .none) ∨ ∃ (T : Addr) (f : Bool), IsZipHeld h z TI TO T f ∧ (∃ o, h.get? T = some o) ∧ lo < T
  ti : IsPair h TI (.ref i1) (.ref i2)
  s1 : SIt h k i1 l1 i xs
  s2 : SIt h k i2 l2 i ys
theorem zs_item {k : Bool} {lo z TI TO i1 i2 l1 l2 : Addr} {i : Nat} {xs ys : Array Value} {x y : Value} {Q : Option Value → Shared → Prop} (D : ZipApart z TI TO i1 i2 l1 l2) (L : z ≤ lo ∧ TO ≤ lo ∧ i1 ≤ lo ∧ i2 ≤ lo) (hlo : lo < s.heap.objs.size) (st : ZSt s.heap k lo z TI TO i1 i2 l1 l2 i xs ys) (hx : xs[i]? = some x) (hy : ys[i]? = some y)
    (hQ : ∀ h', ZSt h' k lo z TI TO i1 i2 l1 l2 (i + 1) xs ys → IsPair h' s.heap.objs.size x y → h'.objs.size = s.heap.objs.size + 1 → (∀ c o, c ≠ z → c ≠ TO → c ≠ i1 → c ≠ i2 → s.heap.get? c = some o → h'.get? c = some o) → Q (some (.ref s.heap.objs.size)) { s with heap := h' }) :
    wpAny (model prog w) A (pyNext (.ref z)) Q E s := by
  obtain ⟨zp, ti, s1, s2⟩ := st
  rcases zp with ⟨hz, hTO⟩ | ⟨T, f, hz, ⟨oT, hT⟩, nT⟩
  · have fin : ∀ h', IsZip h' z TI TO (rawInt s.heap.objs.size) → SIt h' k i1 l1 (i + 1) xs → SIt h' k i2 l2 (i + 1) ys → IsPair h' s.heap.objs.size x y → h'.objs.size = s.heap.objs.size + 1 →
        (∀ c o, c ≠ z → c ≠ TO → c ≠ i1 → c ≠ i2 → s.heap.get? c = some o → h'.get? c = some o) → Q (some (.ref s.heap.objs.size)) { s with heap := h' } := fun h' a1 a3 a4 a5 a6 a7 =>
      hQ h' ⟨.inr ⟨s.heap.objs.size, false, a1, ⟨_, a5⟩, hlo⟩, a7 _ _ D.TIz D.TITO D.TIi1 D.TIi2 ti, a3, a4⟩ a5 a6 a7
    cases k with
    | true =>
      obtain ⟨j1, r1⟩ := s1
      obtain ⟨j2, r2⟩ := s2
      refine RZ.pyNext_zipT_item D hz ti hTO j1 j2 r1 r2 hx hy fun h' a1 a2 a3 a4 a5 a6 a7 => ?_
      obtain ⟨u1, f1, f2⟩ := r1
      obtain ⟨u2, g1, g2⟩ := r2
      exact fin h' a1 ⟨a3, ⟨u1, a7 _ _ D.l1z D.l1TO D.l1i1 D.l1i2 f1, f2⟩⟩ ⟨a4, ⟨u2, a7 _ _ D.l2z D.l2TO D.l2i1 D.l2i2 g1, g2⟩⟩ a5 a6 a7
    | false =>
      obtain ⟨j1, r1⟩ := s1
      obtain ⟨j2, r2⟩ := s2
      refine wpAny_pyNext_zip_item D hz ti hTO j1 j2 r1 r2 hx hy fun h' a1 a2 a3 a4 a5 a6 a7 => ?_
      obtain ⟨u1, f1, f2⟩ := r1
      obtain ⟨u2, g1, g2⟩ := r2
      exact fin h' a1 ⟨a3, ⟨u1, a7 _ _ D.l1z D.l1TO D.l1i1 D.l1i2 f1, f2⟩⟩ ⟨a4, ⟨u2, a7 _ _ D.l2z D.l2TO D.l2i1 D.l2i2 g1, g2⟩⟩ a5 a6 a7
  · have hTy : s.TypeIs (.ref z) "zip" := ⟨_, hz, rfl⟩
    unfold pyNext
    refine wpAny_bind (wpAny_attempt (wpAny_callSpecial?_slot (name := Str.ofString "__next__") hTy F.slot_zip_next
      (wpAny_call_entry F.slot_zip_next hTy F.entry_zip_next
        (held_item D hz hT ti s1 s2 hx hy fun h' a1 a3 a4 a5 a6 a7 => wpAny_pure ?_) (F.args_zip_next_1 _))))
    exact hQ h' ⟨.inr ⟨T, true, a1, ⟨_, a7 _ _ (ne_lo nT L.1) (ne_lo nT L.2.2.1) (ne_lo nT L.2.2.2) hT⟩, nT⟩, a7 _ _ D.TIz D.TIi1 D.TIi2 ti, a3, a4⟩ a5 a6 fun c o c1 _ c3 c4 e => a7 c o c1 c3 c4 e
theorem zs_end {k : Bool} {lo z TI TO i1 i2 l1 l2 : Addr} {i : Nat} {xs ys : Array Value} {Q : Option Value → Shared → Prop} (hh : A.handled = none) (D : ZipApart z TI TO i1 i2 l1 l2) (st : ZSt s.heap k lo z TI TO i1 i2 l1 l2 i xs ys) (hx : xs[i]? = none)
    (hQ : ∀ h', (∀ c o, c ≠ z → c ≠ TO → c ≠ i1 → c ≠ i2 → s.heap.get? c = some o → h'.get? c = some o) → Q none { s with heap := h' }) : wpAny (model prog w) A (pyNext (.ref z)) Q E s := by
  obtain ⟨zp, ti, s1, s2⟩ := st
  rcases zp with ⟨hz, hTO⟩ | ⟨T, f, hz, ⟨oT, hT⟩, nT⟩
  · cases k with
    | true => exact RZ.pyNext_zipT_end hh D hz ti hTO s1.1 s2.1 s1.2 s2.2 (.inl hx) hQ
    | false => exact wpAny_pyNext_zip_end hh D hz ti hTO s1.1 s2.1 s1.2 s2.2 (.inl hx) hQ
  · have hTy : s.TypeIs (.ref z) "zip" := ⟨_, hz, rfl⟩
    unfold pyNext
    refine wpAny_bind (wpAny_attempt (wpAny_callSpecial?_slot (name := Str.ofString "__next__") hTy F.slot_zip_next
      (wpAny_call_entry F.slot_zip_next hTy F.entry_zip_next (held_end hh D hz hT ti s1 hx fun h' e hk he => ?_) (F.args_zip_next_1 _))))
    obtain ⟨o, ho, hc⟩ := he
    refine wpAny_bind (wpAny_isInstance (T := "StopIteration") (b := true) ⟨o, ho, hc⟩ isSubtype_stop ?_)
    exact wpAny_pure (hQ _ fun c o c1 _ c3 c4 e => hk c o c1 c3 c4 e)
/-- the addresses as hold the pairs of xs and ys, in order, as tuples; they lie above lo and rise -/
structure Prs (xs ys : Array Value) (lo : Addr) (h : Heap) (as : List Addr) : Prop where
  rise : as.Pairwise (· < ·)
  above : ∀ a ∈ as, lo < a
  pairs : ∀ (j : Nat) (a : Addr), as[j]? = some a → ∃ x y, xs[j]? = some x ∧ ys[j]? = some y ∧ IsPair h a x y
theorem Prs.there {xs ys : Array Value} {lo : Addr} {h : Heap} {as : List Addr} (g : Prs xs ys lo h as) {a : Addr} (ha : a ∈ as) : a < h.objs.size := by
  obtain ⟨j, hj⟩ := List.mem_iff_getElem?.mp ha
  obtain ⟨_, _, _, _, e⟩ := g.pairs j a hj
  exact Heap.lt_size e
theorem Prs.low {xs ys : Array Value} {lo lo' : Addr} {h : Heap} {as : List Addr} (g : Prs xs ys lo h as) (hl : lo' ≤ lo) : Prs xs ys lo' h as := ⟨g.rise, fun a ha => Nat.lt_of_le_of_lt hl (g.above a ha), g.pairs⟩
theorem zip_lens : typeLookup (.type "zip") "__len__" = pure none := am_miss_of_fast (by decide +kernel)
theorem zip_hints : typeLookup (.type "zip") "__length_hint__" = pure none := am_miss_of_fast (by decide +kernel)
section
variable {R : Result → Shared → Prop} {k : Bool} {xs ys : Array Value}
theorem ZSt.keep {h h' : Heap} {lo z TI TO i1 i2 l1 l2 : Addr} {i : Nat} (x : ZSt h k lo z TI TO i1 i2 l1 l2 i xs ys) (S : Addr) (hk : ∀ b o, b ≠ S → h.get? b = some o → h'.get? b = some o) (n : S ≠ z ∧ S ≠ TI ∧ S ≠ TO ∧ S ≠ i1 ∧ S ≠ i2 ∧ S ≠ l1 ∧ S ≠ l2) (hS : S ≤ lo) : ZSt h' k lo z TI TO i1 i2 l1 l2 i xs ys := by
  obtain ⟨n1, n2, n3, n4, n5, n6, n7⟩ := n
  obtain ⟨zp, ti, s1, s2⟩ := x
  refine ⟨?_, hk _ _ n2.symm ti, s1.keep (fun o e => hk _ _ n4.symm e) (fun o e => hk _ _ n6.symm e), s2.keep (fun o e => hk _ _ n5.symm e) fun o e => hk _ _ n7.symm e⟩
  rcases zp with ⟨a, b⟩ | ⟨T, f, a, ⟨o, b⟩, c⟩
  · exact .inl ⟨hk _ _ n1.symm a, hk _ _ n3.symm b⟩
  · exact .inr ⟨T, f, hk _ _ n1.symm a, ⟨o, hk _ _ (ne_lo c hS) b⟩, c⟩
theorem zl_loop {S lo z TI TO i1 i2 l1 l2 : Addr} (hh : A.handled = none) (D : ZipApart z TI TO i1 i2 l1 l2) (n : S ≠ z ∧ S ≠ TI ∧ S ≠ TO ∧ S ≠ i1 ∧ S ≠ i2 ∧ S ≠ l1 ∧ S ≠ l2) (hSl : S ≤ lo) (L : z ≤ lo ∧ TO ≤ lo ∧ i1 ≤ lo ∧ i2 ≤ lo) (hsz : ys.size = xs.size) (hn : xs.size ≤ sizeLine) (res : Value) {h1 : Heap}
    (hR : ∀ h' tk acc c as, (∀ b o, b ≠ S → b ≠ z → b ≠ TO → b ≠ i1 → b ≠ i2 → h1.get? b = some o → h'.get? b = some o) → h'.get? S = some { cls := .type "list", dict := none, data := .seq acc c, slots := #[] } → as.length = xs.size → Prs xs ys lo h' as →
      acc.toList = as.map Value.ref → R (.ok (.ret res)) { s with heap := h', toks := tk }) :
    ∀ (m i : Nat) (h : Heap) (tk c : Nat) (acc : Array Value) (as : List Addr), xs.size - i = m → i ≤ xs.size → ZSt h k lo z TI TO i1 i2 l1 l2 i xs ys → (∀ b o, b ≠ S → b ≠ z → b ≠ TO → b ≠ i1 → b ≠ i2 → h1.get? b = some o → h.get? b = some o) →
      h.get? S = some { cls := .type "list", dict := none, data := .seq acc c, slots := #[] } → acc.toList = as.map Value.ref → as.length = i → Prs xs ys lo h as → lo < h.objs.size →
      codeAny (model prog w) A (.builtin "list.extend.loop" ⟨[.ref S, .ref z, res], []⟩) R { s with heap := h, toks := tk } := by
  intro m
  induction m with
  | zero =>
    intro i h tk c acc as hm hi st hkeep hS hacc hal hG hls
    have hin : i = xs.size := by omega
    refine codeAny_builtin PySem.F.entry_extend_loop ?_
    rw [Around.under_plainId PySem.F.plain_extend_loop _]
    show wpAny _ A.in1 (pyNext (.ref z) >>= _) _ _ _
    refine wpAny_bind (zs_end (s := { s with heap := h, toks := tk }) (A := A.in1) hh D st (by rw [hin]; simp) fun h' he => ?_)
    refine wpAny_pure (hR h' tk acc c as (fun b o q1 q2 q3 q4 q5 e => he b o q2 q3 q4 q5 (hkeep b o q1 q2 q3 q4 q5 e)) (he S _ n.1 n.2.2.1 n.2.2.2.1 n.2.2.2.2.1 hS) (by omega) ⟨hG.rise, hG.above, fun j a hj => ?_⟩ hacc)
    obtain ⟨x, y, e1, e2, e3⟩ := hG.pairs j a hj
    have ga := hG.above a (List.mem_of_getElem? hj)
    exact ⟨x, y, e1, e2, he a _ (ne_lo ga L.1) (ne_lo ga L.2.1) (ne_lo ga L.2.2.1) (ne_lo ga L.2.2.2) e3⟩
  | succ m ih =>
    intro i h tk c acc as hm hi st hkeep hS hacc hal hG hls
    have hlt : i < xs.size := by omega
    have hlt2 : i < ys.size := by omega
    have hac : acc.size = i := by rw [← Array.length_toList, hacc, List.length_map, hal]
    refine codeAny_builtin PySem.F.entry_extend_loop ?_
    rw [Around.under_plainId PySem.F.plain_extend_loop _]
    show wpAny _ A.in1 (pyNext (.ref z) >>= _) _ _ _
    refine wpAny_bind (zs_item (s := { s with heap := h, toks := tk }) D L hls st (Array.getElem?_eq_getElem hlt) (Array.getElem?_eq_getElem hlt2) fun h' st' ht hz' hkp => ?_)
    dsimp only at ht hz' hkp ⊢
    have hS' := hkp S _ n.1 n.2.2.1 n.2.2.2.1 n.2.2.2.2.1 hS
    have up : ∀ b o, b ≠ S → h'.get? b = some o → (h'.update S (Obj.mapSeq (·.push (Value.ref h.objs.size)))).get? b = some o := fun b o hb e => (Heap.get?_update_other _ _ (Ne.symm hb)).trans e
    have hSlt : S < h.objs.size := Heap.lt_size hS
    show wpAny _ A.in1 (updateSeq S (·.push (Value.ref h.objs.size)) >>= _) _ _ _
    refine wpAny_bind ?_
    refine wpAny_updateSeq hS' rfl (wpAny_pure ⟨plainId_quiet PySem.F.plain_extend_loop _, ih (i + 1) _ tk _ (acc.push (Value.ref h.objs.size)) (as ++ [h.objs.size]) (by omega) hlt (st'.keep S up n hSl)
      (fun b o q1 q2 q3 q4 q5 e => up b o q1 (hkp b o q2 q3 q4 q5 (hkeep b o q1 q2 q3 q4 q5 e))) (Heap.get?_update_self _ hS' rfl) (by rw [Array.toList_push, hacc, List.map_append]; rfl) (by rw [List.length_append, hal]; rfl) ⟨?_, ?_, ?_⟩ ?_⟩) (by rw [hac]; omega) (by show (acc.push (Value.ref h.objs.size)).size ≤ sizeLine + 1; rw [Array.size_push, hac]; omega)
    · refine List.pairwise_append.mpr ⟨hG.rise, List.pairwise_singleton _ _, fun a ha b hb => ?_⟩
      rw [List.mem_singleton.mp hb]
      exact hG.there ha
    · intro a ha
      rcases List.mem_append.mp ha with ha | ha
      · exact hG.above a ha
      · rw [List.mem_singleton.mp ha]; exact hls
    · intro j b hj
      rcases Nat.lt_trichotomy j as.length with q | q | q
      · rw [List.getElem?_append_left q] at hj
        obtain ⟨x, y, e1, e2, e3⟩ := hG.pairs j b hj
        have hb := hG.above b (List.mem_of_getElem? hj)
        exact ⟨x, y, e1, e2, up b _ (ne_lo hb hSl) (hkp b _ (ne_lo hb L.1) (ne_lo hb L.2.1) (ne_lo hb L.2.2.1) (ne_lo hb L.2.2.2) e3)⟩
      · subst q
        have hb : h.objs.size = b := by simpa using hj
        subst hb
        exact ⟨_, _, by rw [hal]; exact Array.getElem?_eq_getElem hlt, by rw [hal]; exact Array.getElem?_eq_getElem hlt2, up _ _ (Nat.ne_of_gt hSlt) ht⟩
      · have hnone : (as ++ [h.objs.size])[j]? = none := List.getElem?_eq_none (by rw [List.length_append, List.length_singleton]; omega)
        rw [hnone] at hj; cases hj
    · have e : (h'.update S (Obj.mapSeq (·.push (Value.ref h.objs.size)))).get? h.objs.size = _ := up _ _ (Nat.ne_of_gt hSlt) ht
      exact Nat.lt_trans hls (Heap.lt_size e)
theorem zip_hint {z TI TO : Addr} {f0 : Value} {Q : Bool → Shared → Prop} (hz : IsZip s.heap z TI TO f0) (h : Q true s) : wpAny (model prog w) A (Builtin.List.listLengthHint (.ref z)) Q E s := by
  have hT : s.TypeIs (.ref z) "zip" := ⟨_, hz, rfl⟩
  unfold Builtin.List.listLengthHint
  refine wpAny_bind (wpAny_specialOf hT zip_lens ?_)
  show wpAny _ _ (specialOf (Value.ref z) (Str.ofString "__length_hint__") >>= _) _ _ _
  refine wpAny_bind (wpAny_specialOf hT zip_hints ?_)
  exact wpAny_pure h
theorem zl_extend {S z TI TO i1 i2 l1 l2 : Addr} {lo c0 : Nat} (hh : A.handled = none) (D : ZipApart z TI TO i1 i2 l1 l2) (n : S ≠ z ∧ S ≠ TI ∧ S ≠ TO ∧ S ≠ i1 ∧ S ≠ i2 ∧ S ≠ l1 ∧ S ≠ l2) (hSl : S ≤ lo) (L : z ≤ lo ∧ TO ≤ lo ∧ i1 ≤ lo ∧ i2 ≤ lo) (hls : lo < s.heap.objs.size) (hsz : ys.size = xs.size) (hn : xs.size ≤ sizeLine) (res : Value)
    (st : ZSt s.heap k lo z TI TO i1 i2 l1 l2 0 xs ys) (hz0 : IsZip s.heap z TI TO .none) (hS : s.heap.get? S = some { cls := .type "list", data := .seq #[] c0 })
    (hR : ∀ h' tk acc c as, (∀ b o, b ≠ S → b ≠ z → b ≠ TO → b ≠ i1 → b ≠ i2 → s.heap.get? b = some o → h'.get? b = some o) → h'.get? S = some { cls := .type "list", dict := none, data := .seq acc c, slots := #[] } → as.length = xs.size → Prs xs ys lo h' as →
      acc.toList = as.map Value.ref → R (.ok (.ret res)) { s with heap := h', toks := tk }) :
    wpAny (model prog w) A.in1 (Builtin.List.listExtendWith (.ref S) (.ref z) res)
      (fun fin s' => match fin with | .done f => R (.ok f) s' | .again c' => c'.quiet = true ∧ codeAny (model prog w) A c' R s') (fun e s' => R (.error e) s') s := by
  have hT : s.TypeIs (.ref z) "zip" := ⟨_, hz0, rfl⟩
  unfold Builtin.List.listExtendWith
  refine wpAny_bind (wpAny_typeOf (T := "zip") hT ?_)
  have e1 : Builtin.List.listSameRef (.ref S) (.ref z) = false := by simp [Builtin.List.listSameRef, n.1]
  have e2 : (Value.type "zip" == Value.type "list") = false := by decide
  have e3 : (Value.type "zip" == Value.type "tuple") = false := by decide
  simp only [e1, e2, e3, Bool.or_false, Bool.false_eq_true, if_false]
  refine wpAny_bind (wpAny_pyIter_zip hz0 ?_)
  refine wpAny_bind (wpAny_holding (zip_hint hz0 ?_))
  simp only [Bool.true_or, if_true]
  refine wpAny_bind (wpAny_rule ?_)
  refine wpAny_bind ?_
  show wpAny _ _ (updateSeq S (·.push .none) >>= fun _ => updateSeq S (·.pop)) _ _ _
  refine wpAny_bind (wpAny_updateSeq hS rfl ?_)
  have hS2 := Heap.get?_update_self (Obj.mapSeq (·.push Value.none)) hS rfl
  refine wpAny_updateSeq (hz := by seq_fits) hS2 rfl ?_
  have hS3 := Heap.get?_update_self (Obj.mapSeq (·.pop)) hS2 rfl
  have oth : ∀ b o, b ≠ S → s.heap.get? b = some o → ((s.heap.update S (Obj.mapSeq (·.push Value.none))).update S (Obj.mapSeq (·.pop))).get? b = some o :=
    fun b o hb e => (Heap.get?_update_other _ _ (Ne.symm hb)).trans ((Heap.get?_update_other _ _ (Ne.symm hb)).trans e)
  refine wpAny_pure ⟨plainId_quiet PySem.F.plain_extend_loop _, ?_⟩
  refine zl_loop (s := s) (k := k) (h1 := s.heap) hh D n hSl L hsz hn res hR xs.size 0 _ s.toks _ #[] [] (Nat.sub_zero _) (Nat.zero_le _) (st.keep S oth n hSl) (fun b o q1 _ _ _ _ e => oth b o q1 e) hS3 rfl rfl
    ⟨List.Pairwise.nil, (fun _ ha => nomatch ha), (fun j a hj => by simp at hj)⟩ ?_
  rw [Heap.size_update, Heap.size_update]
  exact hls
theorem zl_call {z TI TO i1 i2 l1 l2 : Addr} {Q : Value → Shared → Prop} (hh : A.handled = none) (D : ZipApart z TI TO i1 i2 l1 l2) (U : z < s.heap.objs.size ∧ TI < s.heap.objs.size ∧ TO < s.heap.objs.size ∧ i1 < s.heap.objs.size ∧ i2 < s.heap.objs.size ∧ l1 < s.heap.objs.size ∧ l2 < s.heap.objs.size)
    (hsz : ys.size = xs.size) (hn : xs.size ≤ sizeLine) (st : ∀ lo, ZSt s.heap k lo z TI TO i1 i2 l1 l2 0 xs ys) (hz0 : IsZip s.heap z TI TO .none)
    (hQ : ∀ h' tk acc c as, (∀ b o, b ≠ z → b ≠ TO → b ≠ i1 → b ≠ i2 → s.heap.get? b = some o → h'.get? b = some o) → h'.get? s.heap.objs.size = some { cls := .type "list", dict := none, data := .seq acc c, slots := #[] } → as.length = xs.size → Prs xs ys s.heap.objs.size h' as →
      acc.toList = as.map Value.ref → Q (.ref s.heap.objs.size) { s with heap := h', toks := tk }) :
    wpAny (model prog w) A (call (.type "list") [.ref z]) Q E s := by
  refine callType_codes (Q₁ := fun obj s₁ => obj = .ref s.heap.objs.size ∧ s₁ = { s with heap := s.heap.push { cls := .type "list", data := .seq #[] } }) PySem.F.called_list (PySem.F.typeCall_list_1 _) PySem.F.entry_list_init
    (code_list_new _ ⟨rfl, rfl⟩) fun obj s₁ h₁ => ?_
  obtain ⟨rfl, rfl⟩ := h₁
  have hS : (s.heap.push { cls := .type "list", data := .seq #[] }).get? s.heap.objs.size = some { cls := .type "list", data := .seq #[] } := Heap.get?_push_size _ rfl
  refine ⟨⟨_, hS, rfl⟩, PySem.F.args_list_init_2 _ _, ?_⟩
  obtain ⟨u1, u2, u3, u4, u5, u6, u7⟩ := U
  show wpAny _ _ (do let old ← Builtin.List.listItems (.ref s.heap.objs.size); Builtin.List.listUpdate (.ref s.heap.objs.size) (fun _ => #[]); letGo old.toList.reverse; Builtin.List.listExtendWith (.ref s.heap.objs.size) (.ref z) .none) _ _ _
  refine wpAny_bind ?_
  unfold Builtin.List.listItems
  refine wpAny_bind (wpAny_seqItems hS rfl (wpAny_pure ?_))
  show wpAny _ _ (updateSeq s.heap.objs.size (fun _ => #[]) >>= fun _ => letGo (#[] : Array Value).toList.reverse >>= fun _ => Builtin.List.listExtendWith (.ref s.heap.objs.size) (.ref z) .none) _ _ _
  refine wpAny_bind (wpAny_updateSeq hS rfl ?_)
  have hS2 := Heap.get?_update_self (Obj.mapSeq (fun _ => (#[] : Array Value))) hS rfl
  have oth : ∀ b o, b ≠ s.heap.objs.size → s.heap.get? b = some o → ((s.heap.push { cls := .type "list", data := .seq #[] }).update s.heap.objs.size (Obj.mapSeq (fun _ => (#[] : Array Value)))).get? b = some o :=
    fun b o hb e => (Heap.get?_update_other _ _ (Ne.symm hb)).trans (Heap.get?_push_of_some _ e)
  refine wpAny_bind (wpAny_letGo ?_)
  have nn : s.heap.objs.size ≠ z ∧ s.heap.objs.size ≠ TI ∧ s.heap.objs.size ≠ TO ∧ s.heap.objs.size ≠ i1 ∧ s.heap.objs.size ≠ i2 ∧ s.heap.objs.size ≠ l1 ∧ s.heap.objs.size ≠ l2 :=
    ⟨Nat.ne_of_gt u1, Nat.ne_of_gt u2, Nat.ne_of_gt u3, Nat.ne_of_gt u4, Nat.ne_of_gt u5, Nat.ne_of_gt u6, Nat.ne_of_gt u7⟩
  refine zl_extend (s := { s with heap := (s.heap.push { cls := .type "list", data := .seq #[] }).update s.heap.objs.size (Obj.mapSeq (fun _ => (#[] : Array Value))) }) (prog := prog) (w := w) (A := A.in1) (R := wants (fun r s₂ => r = Value.none ∧ Q (Value.ref s.heap.objs.size) s₂) E) (k := k) (lo := s.heap.objs.size) hh D nn (Nat.le_refl _) ⟨Nat.le_of_lt u1, Nat.le_of_lt u3, Nat.le_of_lt u4, Nat.le_of_lt u5⟩ ?_ hsz hn .none ((st _).keep s.heap.objs.size oth nn (Nat.le_refl _)) (oth _ _ nn.1.symm hz0) hS2 (fun h' tk acc c as hk hS' hl hG hacc => ?_)
  · show s.heap.objs.size < (Heap.update _ _ _).objs.size
    rw [Heap.size_update, Heap.size_push]
    exact Nat.lt_succ_self _
  · exact ⟨rfl, hQ h' tk acc c as (fun b o q2 q3 q4 q5 e => hk b o (Nat.ne_of_lt (Heap.lt_size e)) q2 q3 q4 q5 (oth b o (Nat.ne_of_lt (Heap.lt_size e)) e)) hS' hl hG hacc⟩
end
end

/-! ### over the layer -/
/-- at ts stand the pairs of xs and ys -/
def Prz (H : Hp) (ts : List Addr) (xs ys : List V) : Prop := ts.length = xs.length ∧ ∀ (j : Nat) (t : Addr), ts[j]? = some t → ∃ x y, xs[j]? = some x ∧ ys[j]? = some y ∧ H t = some (.tup [x, y])
/-- list(zip(a, b)) -/
def uLZ (K : PySem.W.Frag) (ta : TA) : TE := fun σ H Q => ta σ H fun vs H1 => ∃ a b xs ys, vs = [.ref a, .ref b] ∧ xs.length = ys.length ∧ ((SqT K H1 a xs ∧ SqT K H1 b ys) ∨ (SqL K H1 a xs ∧ SqL K H1 b ys)) ∧
  ∀ (H' : Hp) (p : Addr) (ts : List Addr), Ex H1 H' → H1 p = none → (∀ t ∈ ts, H1 t = none) → p ∉ ts → H' p = some (.lst (ts.map V.ref)) → Prz H' ts xs ys → Q (.ref p) H'
section
variable {X : Cx} {pins : List (Addr × Obj)} {σ : L2.St} {H : Hp} {s : Shared}
/-- the tuples tracked at their addresses -/
def layT : Hp → List Addr → List V → List V → Hp
  | H, a :: as, x :: xs, y :: ys => layT (upd H a (.tup [x, y])) as xs ys
  | H, _, _, _ => H
theorem layT_off {b : Addr} : ∀ (as : List Addr) (xs ys : List V) (H : Hp), b ∉ as → layT H as xs ys b = H b
  | [], _, _, _, _ => rfl
  | _ :: _, [], _, _, _ => rfl
  | _ :: _, _ :: _, [], _, _ => rfl
  | a :: as, x :: xs, y :: ys, H, h => by
    show layT (upd H a (.tup [x, y])) as xs ys b = H b
    rw [layT_off as xs ys _ (fun z => h (List.mem_cons_of_mem _ z)), upd_ne (fun z => h (by rw [z]; exact List.mem_cons_self))]
theorem layT_at : ∀ (as : List Addr) (xs ys : List V) (H : Hp), as.length = xs.length → xs.length = ys.length → as.Nodup → Prz (layT H as xs ys) as xs ys
  | [], [], _, _, _, _, _ => ⟨rfl, fun j t h => by simp at h⟩
  | [], _ :: _, _, _, h, _, _ => by cases h
  | _ :: _, [], _, _, h, _, _ => by cases h
  | _ :: _, _ :: _, [], _, _, h, _ => by cases h
  | a :: as, x :: xs, y :: ys, H, h, h2, hn => by
    obtain ⟨n1, n2⟩ := List.nodup_cons.mp hn
    obtain ⟨l, ih⟩ := layT_at as xs ys (upd H a (.tup [x, y])) (Nat.succ.inj h) (Nat.succ.inj h2) n2
    refine ⟨h, fun j t e => ?_⟩
    show ∃ u v, _ ∧ _ ∧ layT (upd H a (.tup [x, y])) as xs ys t = _
    cases j with
    | zero =>
      simp at e
      subst e
      refine ⟨x, y, rfl, rfl, ?_⟩
      rw [layT_off as xs ys _ n1, upd_same]
    | succ j =>
      obtain ⟨u, v, e1, e2, e3⟩ := ih j t (by simpa using e)
      exact ⟨u, v, by simpa using e1, by simpa using e2, e3⟩
theorem zl_laid {h' : Heap} {tk : Nat} {xs ys : List V} {us vs : List Value} {acc : Array Value} {c : Nat} {as : List Addr} {S : Addr} (I : Inv X pins σ H s) (hz : xs.length ≤ sizeLine) (lxy : xs.length = ys.length) (ru : Vals xs us) (rv : Vals ys vs) (hS0 : s.heap.objs.size ≤ S)
    (hk : ∀ b o, s.heap.get? b = some o → h'.get? b = some o) (hS : h'.get? S = some { cls := .type "list", dict := none, data := .seq acc c, slots := #[] }) (hl : as.length = xs.length) (hG : Prs us.toArray vs.toArray S h' as) (hacc : acc.toList = as.map Value.ref) :
    ∃ H' : Hp, Ex H H' ∧ H S = none ∧ (∀ t ∈ as, H t = none) ∧ S ∉ as ∧ H' S = some (.lst (as.map V.ref)) ∧ Prz H' as xs ys ∧ Inv X pins σ H' { s with heap := h', toks := tk } := by
  have hSn : S ∉ as := fun z => Nat.lt_irrefl _ (hG.above _ z)
  have nd : as.Nodup := List.Pairwise.imp (fun {a b} (h : a < b) => Nat.ne_of_lt h) hG.rise
  have new : ∀ t ∈ as, H t = none := fun t ht => I.hok.fresh (Nat.le_trans hS0 (Nat.le_of_lt (hG.above t ht)))
  have newS : H S = none := I.hok.fresh hS0
  have atP := layT_at as xs ys (upd H S (.lst (as.map V.ref))) hl lxy nd
  have off : ∀ b, b ∉ as → b ≠ S → layT (upd H S (.lst (as.map V.ref))) as xs ys b = H b := fun b h1 h2 => by rw [layT_off as xs ys _ h1, upd_ne h2]
  have low : ∀ b o, s.heap.get? b = some o → b ∉ as ∧ b ≠ S := fun b o e => ⟨fun z => absurd (Heap.lt_size e) (Nat.not_lt.mpr (Nat.le_trans hS0 (Nat.le_of_lt (hG.above b z)))), Nat.ne_of_lt (Nat.lt_of_lt_of_le (Heap.lt_size e) hS0)⟩
  have kp : Ex H (layT (upd H S (.lst (as.map V.ref))) as xs ys) := fun b u e => by
    rw [off b (fun z => by rw [new b z] at e; cases e) (fun z => by rw [z, newS] at e; cases e)]
    exact e
  have eS : layT (upd H S (.lst (as.map V.ref))) as xs ys S = some (.lst (as.map V.ref)) := by rw [layT_off as xs ys _ hSn, upd_same]
  refine ⟨layT (upd H S (.lst (as.map V.ref))) as xs ys, kp, newS, new, hSn, eS, atP, ?_⟩
  refine I.call' (ch := []) rfl ⟨fun b o q _ _ _ => hk b o q, fun b o q _ _ _ => ⟨o.slots, hk b o q⟩, fun b o q n _ => ?_, fun b o q _ => ⟨o, hk b o q⟩, fun b xs q => kp b _ q, fun b o u q => kp b _ q, fun b ps q => ⟨#[], by rw [kp b _ q]; simp⟩⟩ (fun b u q => ?_) I.bare fun b z => by simp at z
  · obtain ⟨z1, z2⟩ := low b o q
    rw [off b z1 z2]
    exact n
  · by_cases hb : b ∈ as
    · obtain ⟨j, hj⟩ := List.mem_iff_getElem?.mp hb
      obtain ⟨x, y, e1, e2, e3⟩ := atP.2 j b hj
      rw [e3] at q
      cases q
      obtain ⟨x', y', f1, f2, f3⟩ := hG.pairs j b hj
      obtain ⟨u1, g1, r1⟩ := Vals.get ru e1
      obtain ⟨u2, g2, r2⟩ := Vals.get rv e2
      have a1 : x' = u1 := by
        rw [List.getElem?_toArray, g1] at f1
        exact (Option.some.inj f1).symm
      have a2 : y' = u2 := by
        rw [List.getElem?_toArray, g2] at f2
        exact (Option.some.inj f2).symm
      subst a1 a2
      exact ⟨by show 2 ≤ sizeLine; decide, [x', y'], .cons r1 (.cons r2 .nil), ⟨_, f3, rfl, _, rfl⟩⟩
    · by_cases hb2 : b = S
      · subst hb2
        rw [eS] at q
        cases q
        refine ⟨by rw [List.length_map, hl]; exact hz, acc.toList, c, by rw [hacc]; exact LiI.vals_refs as, ?_⟩
        rw [Array.toArray_toList]
        exact hS
      · rw [off b hb hb2] at q
        exact (I.hok b u q).stay (fun d v _ y => hk d v y) (fun d y => kp d _ y) fun d xs y => kp d _ y
theorem lt_ne {b n : Nat} (h : b < n) (j : Nat) : b ≠ n + j := Nat.ne_of_lt (Nat.lt_of_lt_of_le h (Nat.le_add_right _ _))
theorem lz7 {a b n : Nat} (la : a < n) (lb : b < n) : n + 4 < n + 5 ∧ n + 2 < n + 5 ∧ n + 3 < n + 5 ∧ n < n + 5 ∧ n + 1 < n + 5 ∧ a < n + 5 ∧ b < n + 5 := by omega
theorem pe_listZip {e e2 : Expr} {ta : TA} {p p2 pos pos2 : Pos} (hc : X.calm = true) (hg : Gl X "list") (hm : X.mg "list" = none) (hg2 : Gl X "zip") (hm2 : X.mg "zip" = none) (ha : PA X [e, e2] ta)
    (hs : starEach [e, e2] X.env = (false, eval e X.env) :: starEach [e2] X.env := by rfl) (hpl : (backTo pos2 (starEach [e2] X.env)).any (·.1) = false := by rfl)
    (hs1 : starEach [.Call (.Name "zip" p2) [e, e2] [] pos2] X.env = (false, eval (.Call (.Name "zip" p2) [e, e2] [] pos2) X.env) :: starEach [] X.env := by rfl) :
    PE X (.Call (.Name "list" p) [.Call (.Name "zip" p2) [e, e2] [] pos2] [] pos) (uLZ X.K ta) := by
  refine ⟨fun pins s σ H Q I h => ?_⟩
  refine wpAny_Call_Name_kw (ld_blt (u := .type "list") I hg hm (by decide +kernel) ?_)
  refine PyProof.Rows.callWith_type1 ?_ hs1 rfl
  rw [hs1]
  refine Calls.spliced_cons ?_
  refine Call_ (ld_blt I hg2 hm2 PyProof.Rows.boot_zip (PyProof.Rows.callWith_type1 (thn (ha.run pos2 pins s σ H _ I h) fun us s1 z => ?_) hs hpl))
  obtain ⟨vs, H1, I1, r1, a, b, xs, ys, ex, lxy, hq, q⟩ := z
  subst ex
  cases r1 with
  | cons r rr =>
    cases rr with
    | cons r' rr =>
      cases rr
      cases r
      cases r'
      have fin : ∀ (k : Bool) (its its2 : List Value), Vals xs its → Vals ys its2 → xs.length ≤ sizeLine → (∀ h' : Heap, (∀ c o, s1.heap.get? c = some o → h'.get? c = some o) → match k with | true => h'.IsTuple a its.toArray ∧ h'.IsTuple b its2.toArray | false => h'.IsList a its.toArray ∧ h'.IsList b its2.toArray) → a < s1.heap.objs.size → b < s1.heap.objs.size →
          ∀ h' : Heap, IsZip h' (s1.heap.objs.size + 4) (s1.heap.objs.size + 2) (s1.heap.objs.size + 3) .none → IsPair h' (s1.heap.objs.size + 2) (.ref s1.heap.objs.size) (.ref (s1.heap.objs.size + 1)) →
            IsPair h' (s1.heap.objs.size + 3) .none .none → (match k with | true => h'.IsTupleIter s1.heap.objs.size a 0 ∧ h'.IsTupleIter (s1.heap.objs.size + 1) b 0 | false => h'.IsListIter s1.heap.objs.size a 0 ∧ h'.IsListIter (s1.heap.objs.size + 1) b 0) → h'.objs.size = s1.heap.objs.size + 5 →
            (∀ c o, s1.heap.get? c = some o → h'.get? c = some o) → wpAny (model X.prog X.w) X.A (call (.type "list") [.ref (s1.heap.objs.size + 4)]) (EP X pins σ Q) X.xe { s1 with heap := h' } := by
        intro k its its2 rv rv2 hz hkk la lb h' hz0 hTI hTO hit hsz hk
        have lu := rv.length
        have lv := rv2.length
        have st : ∀ lo, ZSt h' k lo (s1.heap.objs.size + 4) (s1.heap.objs.size + 2) (s1.heap.objs.size + 3) s1.heap.objs.size (s1.heap.objs.size + 1) a b 0 its.toArray its2.toArray := fun lo => by
          have hq2 := hkk h' hk
          cases k with
          | true => exact ⟨.inl ⟨hz0, hTO⟩, hTI, ⟨hit.1, hq2.1⟩, ⟨hit.2, hq2.2⟩⟩
          | false => exact ⟨.inl ⟨hz0, hTO⟩, hTI, ⟨hit.1, hq2.1⟩, ⟨hit.2, hq2.2⟩⟩
        refine zl_call (s := { s1 with heap := h' }) (k := k) (I1.ok.hd hc) (PySem.W.ktu_apart s1.heap.objs.size a b la lb) ?_ (by rw [List.size_toArray, List.size_toArray]; omega) (by rw [List.size_toArray]; omega) st hz0 fun h2 tk acc c as k2 hS hl hG hacc => ?_
        · show _ < h'.objs.size ∧ _ < h'.objs.size ∧ _ < h'.objs.size ∧ _ < h'.objs.size ∧ _ < h'.objs.size ∧ _ < h'.objs.size ∧ _ < h'.objs.size
          rw [hsz]
          exact lz7 la lb
        · have hl' : as.length = xs.length := by
            rw [hl, List.size_toArray]
            omega
          have hS0 : s1.heap.objs.size ≤ h'.objs.size := by
            rw [hsz]
            exact Nat.le_add_right _ _
          obtain ⟨H', x1, x2, x3, x4, x5, x6, J⟩ := zl_laid (tk := tk) I1 hz lxy rv rv2 hS0 (fun b o e => k2 b o (lt_ne (Heap.lt_size e) 4) (lt_ne (Heap.lt_size e) 3) (lt_ne (Heap.lt_size e) 0) (lt_ne (Heap.lt_size e) 1) (hk b o e)) hS hl' hG hacc
          exact ⟨.ref h'.objs.size, H', J, rfl, q H' _ as x1 x2 x3 x4 x5 x6⟩
      rcases hq with ⟨hqx, hqy⟩ | ⟨hqx, hqy⟩
      · obtain ⟨its, rv, p1, z1⟩ := I1.tuple hqx
        obtain ⟨its2, rv2, p2, _⟩ := I1.tuple hqy
        obtain ⟨o1, ho1, w1⟩ := id p1
        obtain ⟨o2, ho2, w2⟩ := id p2
        have lu := rv.length
        refine RZ.call_zipT (show s1.heap.IsTuple a its.toArray from p1) (show s1.heap.IsTuple b its2.toArray from p2) fun h' hz hTI hTO h1 h2 hsz hk => ?_
        refine Calls.spliced_nil ?_
        exact fin true its its2 rv rv2 (by omega) (fun h3 k3 => ⟨⟨o1, k3 _ _ ho1, w1⟩, ⟨o2, k3 _ _ ho2, w2⟩⟩) (Heap.lt_size ho1) (Heap.lt_size ho2) h' hz hTI hTO ⟨h1, h2⟩ hsz hk
      · obtain ⟨its, rv, p1, z1⟩ := I1.list hqx
        obtain ⟨its2, rv2, p2, _⟩ := I1.list hqy
        have lu := rv.length
        obtain ⟨o1, ho1, w1⟩ := p1.isList
        obtain ⟨o2, ho2, w2⟩ := p2.isList
        refine call_zip_2 p1.isList p2.isList fun h' hz hTI hTO h1 h2 hsz hk => ?_
        refine Calls.spliced_nil ?_
        exact fin false its its2 rv rv2 (by omega) (fun h3 k3 => ⟨⟨o1, k3 _ _ ho1, w1⟩, ⟨o2, k3 _ _ ho2, w2⟩⟩) (Heap.lt_size ho1) (Heap.lt_size ho2) h' hz hTI hTO ⟨h1, h2⟩ hsz hk
end
end Bk

set_option Elab.async false
set_option linter.all false
set_option maxRecDepth 100000
set_option maxHeartbeats 4000000
/-! Bk4: calls of defs, of built-ins by values; the turns of a reading. -/
namespace Bk
open PySem PySem.Spec PyProof.Rows L2
section
variable {X : Cx}
/-! ### calls of defs -/
theorem passAt0 {σ : L2.St} : PassesAt (L2.CX X.prog X.w) X σ (fun _ _ _ => False) := fun _ _ _ _ _ _ h => by
  obtain ⟨_, _, _, _, _, _, _, _, _, _, _, _, z⟩ := h
  exact z.elim
def uCall (sp : Sp) (dvs : List V) (E : L2.St → XK) (t : TA) : TE := fun σ H Q => t σ H fun vs H1 => sp (vs ++ dvs) H1 Q (E σ)
theorem run_fnD {CX : CXT} {k : Nat} {f : Addr} {fd : FuncData} {ps : List Str} {sp : Sp} {ds : List Value} {dvs : List V} {E : XK} {pins : List (Addr × Obj)} {σ : L2.St} {H : Hp} {s : Shared} {Q : VK} {us : List Value} {vs : List V}
    (F : FnOk X.prog X.w X.K X.mg X.base CX k f fd ps sp) (hr : Room k X.A) (hb : Binds X.K fd ps ds) (hd : Vals dvs ds) (hx : PassesAt CX X σ E) (I : Inv X pins σ H s) (r : Vals vs us) (h : sp (vs ++ dvs) H Q E) :
    wpAny (model X.prog X.w) X.A (call (.ref f) us) (EP X pins σ Q) X.xe s := by
  have r2 : Vals (vs ++ dvs) (us ++ ds) := r.append hd
  have hl : (us ++ ds).length = ps.length := by rw [← r2.length]; exact F.len _ _ _ _ h
  refine wpAny_call (codeAny_mono (F.run X.A X.stack s H ⟨us, []⟩ (us ++ ds) (vs ++ dvs) Q E hr I.env0 (hb s us I.kIn hl) r2 h) fun r s' hq => ?_)
  cases r with
  | error e => exact hx pins H s e s' I hq
  | ok fl =>
    cases fl with
    | ret u => exact I.after hq
    | next => exact False.elim hq
    | brk => exact False.elim hq
    | cont => exact False.elim hq
variable {CX : CXT} {k : Nat} {f : Addr} {fd : FuncData} {ps : List Str} {sp : Sp} {ds : List Value} {dvs : List V} {E : L2.St → XK} {x : Str} {p pos : Pos} {e : Expr} {es : List Expr} {t : TA}
theorem pe_callD (F : FnOk X.prog X.w X.K X.mg X.base CX k f fd ps sp) (hr : Room k X.A) (hg : Gl X x) (hm : X.mg x = some (.ref f)) (hk : PySem.W.keepIn X.K (.ref f) = true) (hb : Binds X.K fd ps ds) (hd : Vals dvs ds) (hx : ∀ σ, PassesAt CX X σ (E σ))
    (ha : PA X (e :: es) t) (hdb : (x == ("__debug__" : Str)) = false := by decide) (he : starEach (e :: es) X.env = (false, eval e X.env) :: starEach es X.env := by rfl) (hpl : (backTo pos (starEach es X.env)).any (·.1) = false := by rfl) :
    PE X (.Call (.Name x p) (e :: es) [] pos) (uCall sp dvs E t) := by
  refine ⟨fun pins s σ H Q I h => ?_⟩
  refine wpAny_Call_Name_kw (ld_glob I hg hm ?_ hdb)
  refine PySem.W.callWith_K (h₀ := X.base) I.ok.mod.kin hk (thn (ha.run pos pins s σ H _ I h) fun us s1 z => ?_) he hpl
  obtain ⟨vs, H1, I1, r, q⟩ := z
  exact ⟨I1.kIn, run_fnD F hr hb hd (hx σ) I1 r q⟩
theorem pe_callD0 (F : FnOk X.prog X.w X.K X.mg X.base CX k f fd ps sp) (hr : Room k X.A) (hg : Gl X x) (hm : X.mg x = some (.ref f)) (hk : PySem.W.keepIn X.K (.ref f) = true) (hb : Binds X.K fd ps ds) (hd : Vals dvs ds) (hx : ∀ σ, PassesAt CX X σ (E σ))
    (hdb : (x == ("__debug__" : Str)) = false := by decide) : PE X (.Call (.Name x p) [] [] pos) (uCall sp dvs E tNil) := by
  refine ⟨fun pins s σ H Q I h => ?_⟩
  refine wpAny_Call_Name_kw (ld_glob I hg hm ?_ hdb)
  exact PySem.W.callWith_K0 I.kIn hk (run_fnD (us := []) F hr hb hd (hx σ) I .nil h)

/-! ### calls of built-ins by values -/
def uAbs : List V → Hp → VK → Prop := fun xs H Q => match xs with
  | [.int i] => Q (.int (i.natAbs : Nat)) H
  | _ => False
theorem uk_abs : CallR X (.builtin "abs") uAbs := by
  intro pins s σ H xs us Q I r h
  unfold uAbs at h
  split at h
  · rename_i i
    refine call_abs pins s σ H _ us Q I r ⟨_, rfl, ?_⟩
    have z : (if i < 0 then -i else i) = (i.natAbs : Nat) := by split <;> omega
    rw [z]
    exact h
  · exact h.elim
def uMax2 : List V → Hp → VK → Prop := fun xs H Q => match xs with
  | [.int i, .int j] => Q (.int (max i j)) H
  | _ => False
theorem uk_max2 (hc : X.calm = true) : CallR X (.builtin "max") uMax2 := by
  intro pins s σ H xs us Q I r h
  unfold uMax2 at h
  split at h
  · rename_i i j
    refine call_max2 hc pins s σ H _ us Q I r ⟨_, _, rfl, ?_⟩
    have z : (if j > i then j else i) = max i j := by split <;> omega
    rw [z]
    exact h
  · exact h.elim
def uMin2 : List V → Hp → VK → Prop := fun xs H Q => match xs with
  | [.int i, .int j] => Q (.int (min i j)) H
  | _ => False
theorem uk_min2 (hc : X.calm = true) : CallR X (.builtin "min") uMin2 := by
  intro pins s σ H xs us Q I r h
  unfold uMin2 at h
  split at h
  · rename_i i j
    refine call_min2 hc pins s σ H _ us Q I r ⟨_, _, rfl, ?_⟩
    have z : (if j < i then j else i) = min i j := by split <;> omega
    rw [z]
    exact h
  · exact h.elim
def b2z (b : Bool) : Int := if b then 1 else 0
def uInt : List V → Hp → VK → Prop := fun xs H Q => match xs with
  | [.int i] => Q (.int i) H
  | [.bl k] => Q (.int (b2z k)) H
  | _ => False
theorem uk_int : CallR X (.type "int") uInt := by
  intro pins s σ H xs us Q I r h
  unfold uInt at h
  split at h
  · exact call_int1 pins s σ H _ us Q I r (.inl ⟨_, rfl, h⟩)
  · exact call_int1 pins s σ H _ us Q I r (.inr ⟨_, rfl, h⟩)
  · exact h.elim
/-- a constant of the module's top -/
theorem pe_con {x : Str} {v : V} {pos : Pos} (hg : Gl X x) (h : ∃ u, X.mg x = some u ∧ RelV v u) (hd : (x == ("__debug__" : Str)) = false := by decide) : PE X (.Name x pos) (tC v) := by
  obtain ⟨u, hm, r⟩ := h
  exact pe_glob hg hm r hd

/-! ### isinstance by what the value is -/
/-- the kinds of values that we meet, as built-in types -/
inductive Ty : PySem.W.Frag → Hp → V → String → Prop where
  | non {K : PySem.W.Frag} {H : Hp} : Ty K H .non "NoneType"
  | bl {K : PySem.W.Frag} {H : Hp} (b : Bool) : Ty K H (.bl b) "bool"
  | int {K : PySem.W.Frag} {H : Hp} (i : Int) : Ty K H (.int i) "int"
  | str {K : PySem.W.Frag} {H : Hp} (z : Str) : Ty K H (.str z) "str"
  | lst {K : PySem.W.Frag} {H : Hp} {a : Addr} {xs : List V} (e : H a = some (.lst xs)) : Ty K H (.ref a) "list"
  | tup {K : PySem.W.Frag} {H : Hp} {a : Addr} {xs : List V} (e : H a = some (.tup xs)) : Ty K H (.ref a) "tuple"
theorem Ty.wide {K : PySem.W.Frag} {H : Hp} {v : V} {t : String} (h : Ty K H v t) : TyX K H v (.type t) := by
  cases h with
  | non => exact .base .non
  | bl b => exact .base (.bl b)
  | int i => exact .base (.int i)
  | str z => exact .base (.str z)
  | lst e => exact .base (.lst e)
  | tup e => exact .base (.tup e)
/-- isinstance(x, T), T a built-in type; x any value of ours -/
def uIs (K : PySem.W.Frag) : List V → Hp → VK → Prop := fun xs H Q => match xs with
  | [x, .ty T] => ∃ (t : String) (b : Bool), Ty K H x t ∧ kitB t T = some b ∧ Q (.bl b) H
  | _ => False
theorem uk_is : CallR X (.builtin "isinstance") (uIs X.K) := by
  intro pins s σ H xs us Q I r h
  unfold uIs at h
  split at h
  · obtain ⟨t, b, ty, e, q⟩ := h
    exact call_isi pins s σ H _ us Q I r ⟨_, _, _, _, b, rfl, .ty _, ty.wide, kit_ty e, q⟩
  · exact h.elim
/-- isinstance(x, (T, U)) -/
def uIsT (K : PySem.W.Frag) : List V → Hp → VK → Prop := fun xs H Q => match xs with
  | [x, .ref p] => ∃ (t T U : String) (b c : Bool), H p = some (.tup [.ty T, .ty U]) ∧ Ty K H x t ∧ kitB t T = some b ∧ kitB t U = some c ∧ Q (.bl (b || c)) H
  | _ => False
theorem uk_isT : CallR X (.builtin "isinstance") (uIsT X.K) := by
  intro pins s σ H xs us Q I r h
  unfold uIsT at h
  split at h
  · obtain ⟨t, T, U, b, c, ep, ty, e1, e2, q⟩ := h
    refine call_isiT pins s σ H _ us Q I r ⟨_, _, _, _, [.type T, .type U], b || c, rfl, ep, .cons (.ty T) (.cons (.ty U) .nil), ty.wide, ?_, q⟩
    refine kitAny_cons (kit_ty e1) (fun hb => ?_) fun hb => by rw [hb]; rfl
    rw [hb]
    exact kitAny_cons (kit_ty e2) (fun hc => by rw [hc]; rfl) fun hc => by rw [hc]; rfl
  · exact h.elim
end
end Bk

set_option Elab.async false
set_option linter.all false
set_option maxRecDepth 100000
set_option maxHeartbeats 4000000
/-! Bk5: the turns of a reading, one lemma a word. -/
namespace Bk
open PySem PySem.Spec PyProof.Rows L2
section
variable {D : Ends} {σ : L2.St} {H : Hp} {Q : VK} {K : PySem.W.Frag} {te ta tb tx : TE} {t u : TS} {c d : TT} {g : TG} {tr : TA} {v : V} {i j : Int} {n m : Nat} {r : R2} {gg : Int → Int → V} {C : Int → Int → Prop} {q : Bool → Hp → Prop} {b : Bool}
/-! statements -/
theorem g_seq (h : t { D with nx := u D } σ H) : tSeq t u D σ H := h
theorem g_asg (h : te σ H fun x H1 => g x σ H1 D.nx) : tAsg te g D σ H := h
theorem g_ret (h : te σ H D.rt) : tRet te D σ H := h
theorem g_retN (h : D.rt .non H) : tRetN D σ H := h
theorem g_drop (h : te σ H fun _ H1 => D.nx σ H1) : tDrop te D σ H := h
theorem g_ifs (h : c σ H fun b H1 => if b = true then t D σ H1 else u D σ H1) : tIfS c t u D σ H := h
theorem g_next (h : D.nx σ H) : tNext D σ H := h
theorem g_par {tA : TA} (h : tA σ H fun vs H1 => ∃ v w, vs = [v, w] ∧ D.nx ((σ.set n (some v)).set m (some w)) H1) : tPar n m tA D σ H := h
theorem g_pair {x y : V} {P : V → V → Prop} (h : P x y) : ∃ v w, [x, y] = [v, w] ∧ P v w := ⟨x, y, rfl, h⟩
theorem g_name {P : L2.St → Hp → Prop} (h : P (σ.set n (some v)) H) : gName n v σ H P := h
theorem g_sub {to ti : TE} {ts : TSet} {P : L2.St → Hp → Prop} (h : to σ H fun o H1 => ti σ H1 fun i H2 => ts o i v H2 fun H3 => P σ H3) : gSub to ti ts v σ H P := h
theorem g_setL {p : Addr} {xs : List V} {P : Hp → Prop} {k : Nat} (hp : H p = some (.lst xs)) (hk : ixN xs.length i = some k) (h : P (upd H p (.lst (xs.set k v)))) : rSetL (.ref p) (.int i) v H P := ⟨p, xs, i, k, rfl, rfl, hp, hk, h⟩
theorem g_tup2 {p : Addr} {x y : V} {t1 t2 : TG} {P : L2.St → Hp → Prop} (hp : H p = some (.tup [x, y])) (h : t1 x σ H fun σ1 H1 => t2 y σ1 H1 P) : gTup K 2 (gCons t1 (gCons t2 gNil)) (.ref p) σ H P := by
  refine ⟨p, [x, y], rfl, sqT hp, rfl, x, [y], rfl, ?_⟩
  have e : (fun σ' H' => gCons t2 gNil [y] σ' H' P) = fun σ1 H1 => t2 y σ1 H1 P := by
    funext σ1 H1
    apply propext
    constructor
    · rintro ⟨_, _, q, h⟩
      cases q
      have e2 : (fun σ' H' => gNil [] σ' H' P) = P := by
        funext σ2 H2
        exact propext ⟨fun z => z.2, fun z => ⟨rfl, z⟩⟩
      rw [e2] at h
      exact h
    · intro h
      refine ⟨y, [], rfl, ?_⟩
      have e2 : (fun σ' H' => gNil [] σ' H' P) = P := by
        funext σ2 H2
        exact propext ⟨fun z => z.2, fun z => ⟨rfl, z⟩⟩
      rw [e2]
      exact h
  rw [e]
  exact h
/-! expressions -/
theorem g_c (h : Q v H) : tC v σ H Q := h
theorem g_op (h : ta σ H fun x H1 => tb σ H1 fun y H2 => r x y H2 Q) : tOp r ta tb σ H Q := h
theorem g_un {f : V → Hp → VK → Prop} (h : ta σ H fun x H1 => f x H1 Q) : tUn f ta σ H Q := h
theorem g_cons {P : List V → Hp → Prop} (h : ta σ H fun x H1 => tr σ H1 fun xs H2 => P (x :: xs) H2) : tCons ta tr σ H P := h
theorem g_nil {P : List V → Hp → Prop} (h : P [] H) : tNil σ H P := h
theorem g_cb {f : List V → Hp → VK → Prop} (h : tr σ H fun vs H1 => f vs H1 Q) : tCB f tr σ H Q := h
theorem g_call {sp : Sp} {dvs : List V} {E : L2.St → XK} (h : tr σ H fun vs H1 => sp (vs ++ dvs) H1 Q (E σ)) : uCall sp dvs E tr σ H Q := h
theorem g_if (h : c σ H fun b H1 => if b = true then ta σ H1 Q else tb σ H1 Q) : tIf c ta tb σ H Q := h
theorem g_iT {A B : Prop} (h : A) : if true = true then A else B := by rw [if_pos rfl]; exact h
theorem g_iF {A B : Prop} (h : B) : if false = true then A else B := by rw [if_neg Bool.false_ne_true]; exact h
theorem g_iNT {A B : Prop} (h : B) : if (!true) = true then A else B := by rw [if_neg (by decide)]; exact h
theorem g_iNF {A B : Prop} (h : A) : if (!false) = true then A else B := by rw [if_pos (by decide)]; exact h
theorem g_isNn (h : Q (.bl true) H) : uIsN .non .non H Q := ⟨rfl, by rw [decide_eq_true rfl]; exact h⟩
theorem g_isNr {a : Addr} (h : Q (.bl false) H) : uIsN (.ref a) .non H Q := ⟨rfl, by rw [decide_eq_false (fun z => nomatch z)]; exact h⟩
theorem g_isNi (h : Q (.bl false) H) : uIsN (.int i) .non H Q := ⟨rfl, by rw [decide_eq_false (fun z => nomatch z)]; exact h⟩
theorem g_notNn (h : Q (.bl false) H) : uNotN .non .non H Q := ⟨rfl, by rw [decide_eq_true rfl]; exact h⟩
theorem g_notNr {a : Addr} (h : Q (.bl true) H) : uNotN (.ref a) .non H Q := ⟨rfl, by rw [decide_eq_false (fun z => nomatch z)]; exact h⟩
theorem g_notNi (h : Q (.bl true) H) : uNotN (.int i) .non H Q := ⟨rfl, by rw [decide_eq_false (fun z => nomatch z)]; exact h⟩
theorem g_notV (h : ta σ H fun x H1 => ∃ c, x = .bl c ∧ Q (.bl (!c)) H1) : tNotV ta σ H Q := h
theorem g_not (h : c σ H fun b H1 => q (!b) H1) : tNot c σ H q := h
theorem g_and (h : c σ H fun b H1 => if b = true then d σ H1 q else q false H1) : tAnd c d σ H q := h
theorem g_or (h : c σ H fun b H1 => if b = true then q true H1 else d σ H1 q) : tOr c d σ H q := h
theorem g_uT (h : te σ H fun x H1 => uTru K x H1 q) : uT K te σ H q := h
theorem g_test (h : te σ H fun x H1 => ∃ k, x = .bl k ∧ q k H1) : tTest te σ H q := h
theorem g_tB (h : te σ H fun x H1 => ∃ c, x = .bl c ∧ q c H1) : tB te σ H q := h
theorem g_bl {P : Bool → Prop} (h : P b) : ∃ k, V.bl b = .bl k ∧ P k := ⟨b, rfl, h⟩
theorem g_chain {r' : R2} (h : ta σ H fun x H1 => tb σ H1 fun y H2 => r x y H2 fun z H3 => ∃ k, z = .bl k ∧ (if k = true then tx σ H3 fun w' H4 => r' y w' H4 Q else Q (.bl false) H3)) : tChain r r' ta tb tx σ H Q := h
theorem g_andV (h : ta σ H fun x H1 => ∃ c, x = .bl c ∧ if c = true then tb σ H1 Q else Q (.bl false) H1) : tAndV ta tb σ H Q := h
theorem g_orV (h : ta σ H fun x H1 => ∃ c, x = .bl c ∧ if c = true then Q (.bl true) H1 else tb σ H1 Q) : tOrV ta tb σ H Q := h
theorem g_tbl (h : q b H) : uTru K (.bl b) H q := h
theorem g_tin (h : q (i != 0) H) : uTru K (.int i) H q := h
theorem g_addI (h : Q (.int (i + j)) H) : uAdd K (.int i) (.int j) H Q := h
theorem g_i0 (h : Q (gg i j) H) : uI0 gg (.int i) (.int j) H Q := h
theorem g_i (h : Q (gg i j) H) (hc : C i j) : uI C gg (.int i) (.int j) H Q := ⟨hc, h⟩
theorem g_neg (h : Q (.int (-i)) H) : uNeg (.int i) H Q := h
theorem g_eqI (h : Q (.bl (decide (V.int i = V.int j))) H) : rEq (.int i) (.int j) H Q := ⟨rfl, h⟩
theorem g_neI (h : Q (.bl (!decide (V.int i = V.int j))) H) : rNe (.int i) (.int j) H Q := ⟨rfl, h⟩
theorem g_eqS {x y : Str} (h : Q (.bl (decide (V.str x = V.str y))) H) : rEq (.str x) (.str y) H Q := ⟨rfl, h⟩
theorem g_neS {x y : Str} (h : Q (.bl (!decide (V.str x = V.str y))) H) : rNe (.str x) (.str y) H Q := ⟨rfl, h⟩
theorem g_neB {x y : Bool} (h : Q (.bl (!decide (V.bl x = V.bl y))) H) : rNe (.bl x) (.bl y) H Q := ⟨rfl, h⟩
theorem g_abs (h : Q (.int (i.natAbs : Nat)) H) : uAbs [.int i] H Q := h
theorem g_max (h : Q (.int (max i j)) H) : uMax2 [.int i, .int j] H Q := h
theorem g_min (h : Q (.int (min i j)) H) : uMin2 [.int i, .int j] H Q := h
theorem g_intI (h : Q (.int i) H) : uInt [.int i] H Q := h
theorem g_intB (h : Q (.int (b2z b)) H) : uInt [.bl b] H Q := h
theorem g_is {x : V} {T t : String} (ty : Ty K H x t) (e : kitB t T = some b) (h : Q (.bl b) H) : uIs K [x, .ty T] H Q := ⟨t, b, ty, e, h⟩
theorem g_lenL {p : Addr} {xs : List V} (hp : H p = some (.lst xs)) (h : Q (.int (xs.length : Nat)) H) : uLen K [.ref p] H Q := ⟨xs.length, .inl ⟨xs, .inl (sqL hp), rfl⟩, h⟩
theorem g_lenT {p : Addr} {xs : List V} (hp : H p = some (.tup xs)) (h : Q (.int (xs.length : Nat)) H) : uLen K [.ref p] H Q := ⟨xs.length, .inl ⟨xs, .inr (sqT hp), rfl⟩, h⟩
theorem g_lenSq {p : Addr} {xs : List V} (hp : SqL K H p xs) (h : Q (.int (xs.length : Nat)) H) : uLen K [.ref p] H Q := ⟨xs.length, .inl ⟨xs, .inl hp, rfl⟩, h⟩
theorem g_ixL {p : Addr} {xs : List V} (hp : H p = some (.lst xs)) (e : atI xs i = some v) (h : Q v H) : uIx K (.ref p) (.int i) H Q := ⟨xs, v, .inl (sqL hp), e, h⟩
theorem g_ixT {p : Addr} {xs : List V} (hp : H p = some (.tup xs)) (e : atI xs i = some v) (h : Q v H) : uIx K (.ref p) (.int i) H Q := ⟨xs, v, .inr (sqT hp), e, h⟩
theorem g_ixSq {p : Addr} {xs : List V} (hp : SqL K H p xs) (e : atI xs i = some v) (h : Q v H) : uIx K (.ref p) (.int i) H Q := ⟨xs, v, .inl hp, e, h⟩
theorem g_tup (h : tr σ H fun xs H1 => xs.length ≤ sizeLine ∧ ∀ p, H1 p = none → Q (.ref p) (upd H1 p (.tup xs))) : tTup tr σ H Q := h
theorem g_lst (h : tr σ H fun xs H1 => xs.length ≤ sizeLine ∧ ∀ p, H1 p = none → Q (.ref p) (upd H1 p (.lst xs))) : tLst tr σ H Q := h
theorem g_new {xs : List V} {P : Prop} (h : P) (hl : Nat.ble xs.length 1000 = true := by rfl) : xs.length ≤ sizeLine ∧ P := ⟨Nat.le_of_lt (small1000 (Nat.le_of_ble_eq_true hl)), h⟩
theorem g_newL {xs : List V} {P : Prop} (hl : xs.length ≤ 1000) (h : P) : xs.length ≤ sizeLine ∧ P := ⟨Nat.le_of_lt (small1000 hl), h⟩
theorem g_for {wi : TI} {tb : TS} {D : Ends} {σ : L2.St} {H : Hp} (h : wi σ H fun J H1 => ∃ W : Nat → Nat → L2.St → Hp → Prop, (∃ m, W 0 m σ H1) ∧ ∀ i m σ H, W i m σ H →
  (J.stop i H ∧ D.nx σ H) ∨ (J.go i H ∧ ∃ N : L2.St → Hp → Prop, (∀ σ' H', N σ' H' → ∃ m', m' < m ∧ W (i + 1) m' σ' H') ∧ ∀ x H', J.yld i H x H' → g x σ H' fun σ2 H2 => tb { D with nx := N, ct := N, bk := D.nx } σ2 H2)) : tFor wi g tb D σ H := h
theorem g_rng1 {R : It → Hp → Prop} (h : tr σ H fun vs H1 => ∃ j : Int, vs = [.int j] ∧ -(2 ^ 62) ≤ j ∧ j < 2 ^ 62 ∧ R (Itr 0 j.toNat) H1) : iRng1 tr σ H R := h
theorem g_rng2 {R : It → Hp → Prop} (h : tr σ H fun vs H1 => ∃ i j : Int, vs = [.int i, .int j] ∧ (-(2 ^ 62) ≤ i ∧ i < 2 ^ 62 ∧ -(2 ^ 62) ≤ j ∧ j < 2 ^ 62) ∧ R (Itr i (j - i).toNat) H1) : iRng2 tr σ H R := h
theorem g_bm0 {T : String} {f : V → List V → Hp → VK → Prop} (h : ta σ H fun x H1 => tyV K T x H1 ∧ f x [] H1 Q) : tBM0 K T f ta σ H Q := h
theorem g_bm {T : String} {f : V → List V → Hp → VK → Prop} (h : ta σ H fun x H1 => tyV K T x H1 ∧ tr σ H1 fun xs H2 => f x xs H2 Q) : tBM K T f ta tr σ H Q := h
theorem g_tyL {p : Addr} {xs : List V} {P : Prop} (hp : H p = some (.lst xs)) (h : P) : tyV K "list" (.ref p) H ∧ P := ⟨.inl ⟨rfl, xs, sqL hp⟩, h⟩
theorem g_app {p : Addr} {xs : List V} (hp : H p = some (.lst xs)) (hz : xs.length < sizeLine) (h : Q .non (upd H p (.lst (xs ++ [v])))) : rAppend (.ref p) [v] H Q := ⟨p, xs, v, rfl, rfl, hp, hz, h⟩
end
/-- the rest of a while's turn: it ends where W stands with less -/
def WN (W : Nat → L2.St → Hp → Prop) (m : Nat) (tb : TS) (D : Ends) (σ : L2.St) (H : Hp) : Prop := ∃ N : L2.St → Hp → Prop, (∀ σ' H', N σ' H' → ∃ m', m' < m ∧ W m' σ' H') ∧ tb { D with nx := N, ct := N, bk := D.nx } σ H
theorem g_wn {W : Nat → L2.St → Hp → Prop} {m : Nat} {tb : TS} {D : Ends} {σ : L2.St} {H : Hp} (h : tb { D with nx := fun σ' H' => ∃ m', m' < m ∧ W m' σ' H', ct := fun σ' H' => ∃ m', m' < m ∧ W m' σ' H', bk := D.nx } σ H) : WN W m tb D σ H := ⟨_, fun _ _ z => z, h⟩
/-- while, by a word that bears its measure -/
theorem g_while {c : TT} {tb : TS} {D : Ends} {σ : L2.St} {H : Hp} (W : Nat → L2.St → Hp → Prop) (m0 : Nat) (h0 : W m0 σ H) (hs : ∀ m σ H, W m σ H → c σ H fun b H1 => if b = true then WN W m tb D σ H1 else D.nx σ H1) : tWhile c tb D σ H :=
  ⟨W, ⟨m0, h0⟩, hs⟩
end Bk

set_option Elab.async false
set_option linter.all false
set_option maxRecDepth 100000
set_option maxHeartbeats 4000000
/-! Bk6: what all laws share: tests, boxes of draws, the law's own end. -/
namespace Bk
open PySem PySem.Spec PyProof.Rows L2
/-! ### tests -/
section
variable {A B : Prop} {i j : Int}
theorem i_d {p : Prop} [Decidable p] (h1 : p → A) (h2 : ¬ p → B) : if decide p = true then A else B := by
  by_cases h : p
  · rw [if_pos (decide_eq_true h)]; exact h1 h
  · rw [if_neg (by simp [h])]; exact h2 h
theorem i_n {p : Prop} [Decidable p] (h1 : ¬ p → A) (h2 : p → B) : if (!decide p) = true then A else B := by
  by_cases h : p
  · rw [if_neg (by simp [h])]; exact h2 h
  · rw [if_pos (by simp [h])]; exact h1 h
theorem i_b {b : Bool} (h1 : b = true → A) (h2 : b = false → B) : if b = true then A else B := by
  cases b with
  | true => rw [if_pos rfl]; exact h1 rfl
  | false => rw [if_neg Bool.false_ne_true]; exact h2 rfl
theorem i_eqI (h1 : i = j → A) (h2 : i ≠ j → B) : if decide (V.int i = V.int j) = true then A else B := i_d (fun h => h1 (V.int.inj h)) fun h => h2 fun e => h (congrArg V.int e)
theorem i_neI (h1 : i ≠ j → A) (h2 : i = j → B) : if (!decide (V.int i = V.int j)) = true then A else B := i_n (fun h => h1 fun e => h (congrArg V.int e)) fun h => h2 (V.int.inj h)
theorem i_eqS {x y : Str} (h1 : x = y → A) (h2 : x ≠ y → B) : if decide (V.str x = V.str y) = true then A else B := i_d (fun h => h1 (V.str.inj h)) fun h => h2 fun e => h (congrArg V.str e)
theorem i_neS {x y : Str} (h1 : x ≠ y → A) (h2 : x = y → B) : if (!decide (V.str x = V.str y)) = true then A else B := i_n (fun h => h1 fun e => h (congrArg V.str e)) fun h => h2 (V.str.inj h)
theorem i_T {b : Bool} (h : b = true) (a : A) : if b = true then A else B := by rw [if_pos h]; exact a
theorem i_F {b : Bool} (h : b = false) (a : B) : if b = true then A else B := by rw [h, if_neg Bool.false_ne_true]; exact a
end
/-! ### the structure's small parts -/
theorem exm_self {K : PySem.W.Frag} {S : Addr} (h1 : PySem.W.subIn K (.ref S) (.type "BaseException") = some true) (h2 : PySem.W.isClsIn K S = true) (h3 : PySem.W.typeIn K (.ref S) = some (.type "type")) (h4 : PySem.W.subIn K (.ref S) (.ref S) = some true) :
    PySem.W.exmOne K (.ref S) (.ref S) = some true := by
  have a : (PySem.W.subIn K (.ref S) (.type "BaseException") == some true) = true := by rw [h1] <;> rfl
  have b : ((PySem.W.clsIn K S).isSome && PySem.W.typeIn K (.ref S) == some (.type "type")) = true := by
    have z : (PySem.W.clsIn K S).isSome = true := h2
    rw [z, h3] <;> rfl
  show (if (PySem.W.subIn K (.ref S) (.type "BaseException") == some true) = true then (if ((PySem.W.clsIn K S).isSome && PySem.W.typeIn K (.ref S) == some (.type "type")) = true then PySem.W.subIn K (.ref S) (.ref S) else none) else none) = some true
  rw [if_pos a, if_pos b]
  exact h4
theorem binds_all {K : PySem.W.Frag} {fd : FuncData} {ps : List Str} (h : ∃ ds, Vals [] ds ∧ Binds K fd ps ds) : Binds K fd ps [] := by
  obtain ⟨ds, r, b⟩ := h
  cases r
  exact b
/-- what a law promises -/
def spLaw (K : PySem.W.Frag) : Sp := fun vs H Q _ => ∃ (a : Addr) (ns : List Int), vs = [.ref a] ∧ SqL K H a (ns.map V.int) ∧ ns.length ≤ 63 ∧ ∀ H', Q (.bl true) H'
theorem spLaw_of {K : PySem.W.Frag} {H : Hp} {a : Addr} {ns : List Int} (_ : Only H) (hS : SqL K H a (ns.map V.int)) (hl : ns.length ≤ 63) : spLaw K [.ref a] H (fun v _ => v = .bl true) fun _ _ _ => False := ⟨a, ns, rfl, hS, hl, fun _ => rfl⟩
theorem cx_false {P : Program} {w : World} {H : Hp} {s s' : Shared} {e : Value} (h : L2.CX P w [] H s (fun _ _ _ => False) e s') : False := by
  obtain ⟨_, _, _, _, _, _, _, _, _, _, _, _, z⟩ := h
  exact z
/-! ### a box of draws -/
def Box (H : Hp) (p : Addr) : Prop := ∃ a b c : Int, H p = some (.lst [.int a, .int b, .int c])
theorem Box.ex {H H' : Hp} {p : Addr} (b : Box H p) (e : Ex H H') : Box H' p := by
  obtain ⟨x, y, z, h⟩ := b
  exact ⟨x, y, z, e _ _ h⟩
theorem Box.but {H H' : Hp} {p l : Addr} (b : Box H p) (e : But l H H') (n : p ≠ l) : Box H' p := by
  obtain ⟨x, y, z, h⟩ := b
  exact ⟨x, y, z, e _ _ n h⟩
/-- take(box, m): a number from 0 to m - 1 -/
def spTake : Sp := fun vs H Q _ => ∃ (p : Addr) (m : Int), vs = [.ref p, .int m] ∧ Box H p ∧ 0 < m ∧ m.natAbs.log2 < 9000 ∧ ∀ (d : Int) (H' : Hp), 0 ≤ d → d < m → But p H H' → Box H' p → Q (.int d) H'
/-- box(script, k): a new box -/
def spBox (K : PySem.W.Frag) : Sp := fun vs H Q _ => ∃ (s : Addr) (ns : List Int) (k : Nat), vs = [.ref s, .int (k : Int)] ∧ SqL K H s (ns.map V.int) ∧ ns.length ≤ 63 ∧ ∀ (p : Addr) (H' : Hp), H p = none → Ex H H' → Box H' p → Q (.ref p) H'
theorem fmod_pos {a m : Int} (h : 0 < m) : 0 ≤ a.fmod m ∧ a.fmod m < m := by
  rw [Int.fmod_eq_emod_of_nonneg a (Int.le_of_lt h)]
  exact ⟨Int.emod_nonneg _ (Int.ne_of_gt h), Int.emod_lt_of_pos _ h⟩
theorem at_ints {ns : List Int} {i : Nat} (h : i < ns.length) : atI (ns.map V.int) (i : Int) = some (.int ns[i]) := atI_nat (by rw [List.getElem?_map, List.getElem?_eq_getElem h]; rfl)
end Bk

set_option Elab.async false
set_option linter.all false
set_option maxRecDepth 100000
set_option maxHeartbeats 4000000
/-! Bk7: sizes of numbers, the found pair's parts, values told apart. -/
namespace Bk
open PySem PySem.Spec PyProof.Rows L2
/-- within n bits -/
def Bits (n : Nat) (i : Int) : Prop := i.natAbs < 2 ^ n
instance instBits (n : Nat) (i : Int) : Decidable (Bits n i) := inferInstanceAs (Decidable (i.natAbs < 2 ^ n))
theorem Bits.le {n m : Nat} {i : Int} (h : Bits n i) (hm : n ≤ m := by decide) : Bits m i := Nat.lt_of_lt_of_le h (Nat.pow_le_pow_right (by decide) hm)
theorem Bits.mul {n m : Nat} {i j : Int} (h : Bits n i) (g : Bits m j) : Bits (n + m) (i * j) := by
  unfold Bits at *
  rw [Int.natAbs_mul, Nat.pow_add]
  exact Nat.mul_lt_mul'' h g
theorem Bits.add {n : Nat} {i j : Int} (h : Bits n i) (g : Bits n j) : Bits (n + 1) (i + j) := by
  unfold Bits at *
  rw [Nat.pow_succ]
  omega
theorem Bits.sub {n : Nat} {i j : Int} (h : Bits n i) (g : Bits n j) : Bits (n + 1) (i - j) := by
  unfold Bits at *
  rw [Nat.pow_succ]
  omega
theorem Bits.abs {n : Nat} {i : Int} (h : Bits n i) : Bits n (i.natAbs : Nat) := by
  unfold Bits at *
  omega
theorem Bits.of_le {n : Nat} {i j : Int} (h : Bits n j) (g : i.natAbs ≤ j.natAbs) : Bits n i := Nat.lt_of_le_of_lt g h
theorem Bits.log {n : Nat} {i : Int} (h : Bits n i) (hn : 0 < n := by decide) : i.natAbs.log2 < n := by
  by_cases c : i.natAbs = 0
  · rw [c]
    exact hn
  · exact (Nat.log2_lt c).2 h
theorem Bits.cm {n m : Nat} {i j : Int} (h : Bits n i) (g : Bits m j) (hn : n ≤ 1000 := by decide) (hm : m ≤ 900000 := by decide) : CMm i j := by
  refine .inr (mulL ?_ ?_)
  · exact (h.le hn).log
  · by_cases c : j.natAbs = 0
    · rw [c]
      decide
    · exact Nat.lt_of_lt_of_le ((Nat.log2_lt c).2 g) hm
theorem Bits.fd {n : Nat} {i j : Int} (h : Bits n j) (h0 : j ≠ 0) (hn : n ≤ 9000 := by decide) : CFd i j := by
  refine ⟨h0, ?_⟩
  exact Nat.lt_of_lt_of_le ((Nat.log2_lt (by omega)).2 h) hn
theorem fdiv_le {i j : Int} (h : j ≠ 0) (d : j ∣ i) : (i.fdiv j).natAbs ≤ i.natAbs := by
  rw [Int.fdiv_eq_ediv_of_dvd d]
  exact Int.natAbs_ediv_le_natAbs _ _
theorem Bits.of_fdiv {n : Nat} {i j : Int} (b : Bits n i) (h : j ≠ 0) (d : j ∣ i) : Bits n (i.fdiv j) := b.of_le (fdiv_le h d)
theorem gcd_bits {n : Nat} {u l : Int} (h : l ≠ 0) (b : Bits n l) : Bits n (Int.gcd u l : Nat) := by
  refine b.of_le ?_
  rw [Int.natAbs_natCast]
  exact Nat.le_of_dvd (by omega) (Nat.gcd_dvd_right u.natAbs l.natAbs)
/-- what the two parts are divided by -/
def fpt (u l : Int) : Int := if l < 0 then 0 - (Int.gcd u l : Nat) else (Int.gcd u l : Nat)
theorem fpt_ne {u l : Int} (h : l ≠ 0) : fpt u l ≠ 0 := by
  have e : Int.gcd u l ≠ 0 := fun z => h (Int.gcd_eq_zero_iff.1 z).2
  unfold fpt
  split <;> omega
theorem fpt_bits {n : Nat} {u l : Int} (h : l ≠ 0) (b : Bits n l) : Bits n (fpt u l) := by
  have g := gcd_bits (u := u) h b
  unfold fpt
  split
  · unfold Bits at *
    omega
  · exact g
theorem fpt_l (u l : Int) : fpt u l ∣ l := by
  unfold fpt
  split
  · rw [Int.zero_sub]
    exact Int.neg_dvd.2 (Int.gcd_dvd_right u l)
  · exact Int.gcd_dvd_right u l
theorem fpt_u (u l : Int) : fpt u l ∣ u := by
  unfold fpt
  split
  · rw [Int.zero_sub]
    exact Int.neg_dvd.2 (Int.gcd_dvd_left u l)
  · exact Int.gcd_dvd_left u l
/-- u / l in lowest terms -/
def fru (u l : Int) : Int := u.fdiv (fpt u l)
def frl (u l : Int) : Int := l.fdiv (fpt u l)
theorem fru_bits {n : Nat} {u l : Int} (h : l ≠ 0) (b : Bits n u) : Bits n (fru u l) := b.of_fdiv (fpt_ne h) (fpt_u u l)
theorem frl_bits {n : Nat} {u l : Int} (h : l ≠ 0) (b : Bits n l) : Bits n (frl u l) := b.of_fdiv (fpt_ne h) (fpt_l u l)
theorem frl_pos {u l : Int} (h : l ≠ 0) : 0 < frl u l := by
  have e : frl u l * fpt u l = l := by
    unfold frl
    rw [Int.fdiv_eq_ediv_of_dvd (fpt_l u l)]
    exact Int.ediv_mul_cancel (fpt_l u l)
  have g : 0 < Int.gcd u l := Nat.pos_of_ne_zero fun z => h (Int.gcd_eq_zero_iff.1 z).2
  by_cases c : l < 0
  · have f : fpt u l = 0 - (Int.gcd u l : Nat) := if_pos c
    rw [f] at e
    by_cases k : 0 < frl u l
    · exact k
    · exfalso
      have : 0 ≤ frl u l * (0 - (Int.gcd u l : Nat)) := Int.mul_nonneg_of_nonpos_of_nonpos (by omega) (by omega)
      omega
  · have f : fpt u l = (Int.gcd u l : Nat) := if_neg c
    rw [f] at e
    by_cases k : 0 < frl u l
    · exact k
    · exfalso
      have : frl u l * (Int.gcd u l : Nat) ≤ 0 := Int.mul_nonpos_of_nonpos_of_nonneg (by omega) (by omega)
      omega
def spAr (CN : Addr) (fu fl : Int → Int → Int → Int → Int) : Sp := fun vs H Q E => ∃ (p r : Addr) (a b c d : Int), vs = [.ref p, .ref r] ∧ H p = some (.tup [.int a, .int b]) ∧ H r = some (.tup [.int c, .int d]) ∧ Bits 500 a ∧ Bits 500 b ∧ Bits 500 c ∧ Bits 500 d ∧
  (fl a b c d = 0 → E (.ref CN) none H) ∧ (fl a b c d ≠ 0 → ∀ p, H p = none → Q (.ref p) (upd H p (.tup [.int (fru (fu a b c d) (fl a b c d)), .int (frl (fu a b c d) (fl a b c d))])))
def spLess : Sp := fun vs H Q _ => ∃ (p r : Addr) (a b c d : Int), vs = [.ref p, .ref r] ∧ H p = some (.tup [.int a, .int b]) ∧ H r = some (.tup [.int c, .int d]) ∧ Bits 500 a ∧ Bits 500 b ∧ Bits 500 c ∧ Bits 500 d ∧ Q (.bl (decide (a * d < c * b))) H
def spFrac (CN : Addr) : Sp := fun vs H Q E => ∃ u l : Int, vs = [.int u, .int l] ∧ Bits 2000 u ∧ Bits 2000 l ∧ (l = 0 → E (.ref CN) none H) ∧ (l ≠ 0 → ∀ p, H p = none → Q (.ref p) (upd H p (.tup [.int (fru u l), .int (frl u l)])))
end Bk

set_option Elab.async false
set_option linter.all false
set_option maxRecDepth 100000
set_option maxHeartbeats 4000000
/-! Bk8: two values of one reading are alike: what the laws' comparison needs. -/
namespace Bk
open PySem PySem.Spec PyProof.Rows L2
def D.tag : D → String
  | .non => "NoneType" | .bl _ => "bool" | .int _ => "int" | .str _ => "str" | .tup _ => "tuple" | .lst _ => "list"
def D.isT : D → Bool
  | .tup _ => true | _ => false
def D.isL : D → Bool
  | .lst _ => true | _ => false
def D.isB : D → Bool
  | .bl _ => true | _ => false
def D.isI : D → Bool
  | .int _ => true | .bl _ => true | _ => false
theorem Rep.ty {K : PySem.W.Frag} {H : Hp} {d : D} {v : V} (h : Rep H d v) : Ty K H v d.tag := by
  cases d <;> simp only [Rep] at h
  · subst h; exact .non
  · subst h; exact .bl _
  · subst h; exact .int _
  · subst h; exact .str _
  · obtain ⟨a, vs, rfl, e, _⟩ := h; exact .tup e
  · obtain ⟨a, vs, rfl, e, _⟩ := h; exact .lst e
theorem kit_tup (d : D) : kitB d.tag "tuple" = some d.isT := by cases d <;> simp only [D.tag, D.isT, D.isL, D.isB, D.isI] <;> decide +kernel
theorem kit_lst (d : D) : kitB d.tag "list" = some d.isL := by cases d <;> simp only [D.tag, D.isT, D.isL, D.isB, D.isI] <;> decide +kernel
theorem kit_bl (d : D) : kitB d.tag "bool" = some d.isB := by cases d <;> simp only [D.tag, D.isT, D.isL, D.isB, D.isI] <;> decide +kernel
theorem kit_int (d : D) : kitB d.tag "int" = some d.isI := by cases d <;> simp only [D.tag, D.isT, D.isL, D.isB, D.isI] <;> decide +kernel
section
variable {K : PySem.W.Frag} {H H0 H1 H2 : Hp} {Q : VK} {d : D} {v w : V}
theorem g_isD {T : String} {b : Bool} (r : Rep H d v) (e : kitB d.tag T = some b) (h : Q (.bl b) H) : uIs K [v, .ty T] H Q := ⟨_, b, r.ty, e, h⟩
theorem g_isTD {p : Addr} (r : Rep H d v) (hp : H p = some (.tup [.ty "tuple", .ty "list"])) (h : Q (.bl (d.isT || d.isL)) H) : uIsT K [v, .ref p] H Q := ⟨_, _, _, _, _, hp, r.ty, kit_tup d, kit_lst d, h⟩
theorem g_neBB {b : Bool} (h : Q (.bl false) H) : rNe (.bl b) (.bl b) H Q := ⟨rfl, by rw [decide_eq_true rfl]; exact h⟩
theorem g_neD (r : Rep H0 d v) (r' : Rep H0 d w) (ht : (d.isT || d.isL) = false) (h : Q (.bl false) H) : rNe v w H Q := by
  cases d <;> simp only [Rep] at r r'
  · subst r; subst r'; exact ⟨rfl, by rw [decide_eq_true rfl]; exact h⟩
  · subst r; subst r'; exact ⟨rfl, by rw [decide_eq_true rfl]; exact h⟩
  · subst r; subst r'; exact ⟨rfl, by rw [decide_eq_true rfl]; exact h⟩
  · subst r; subst r'; exact ⟨rfl, by rw [decide_eq_true rfl]; exact h⟩
  · cases ht
  · cases ht
theorem g_pop {l : Addr} {xs : List V} {y : V} (hl : H l = some (.lst (xs ++ [y]))) (h : Q y (upd H l (.lst xs))) : rPop (.ref l) [] H Q := by
  refine ⟨l, _, y, rfl, rfl, hl, ?_, ?_⟩
  · rw [List.length_append, List.length_singleton, Nat.add_sub_cancel, List.getElem?_append_right (Nat.le_refl _), Nat.sub_self]
    rfl
  · rw [List.dropLast_concat]
    exact h
theorem g_ext {l b : Addr} {xs zs : List V} (hl : H l = some (.lst xs)) (hb : H b = some (.lst zs)) (hz : xs.length + zs.length ≤ 1000000) (h : Q .non (upd H l (.lst (xs ++ zs)))) : rExtend (.ref l) [.ref b] H Q :=
  ⟨l, b, xs, zs, rfl, rfl, hl, hb, Nat.le_trans hz (by decide), h⟩
end
section
variable {K : PySem.W.Frag} {H H0 H1 H2 : Hp} {Q : VK} {d : D} {v w : V}
theorem D.open {d : D} (k : (d.isT || d.isL) = true) (r : Rep H0 d v) (r' : Rep H0 d w) : ∃ (a b : Addr) (ds : List D) (xs ys : List V), v = .ref a ∧ w = .ref b ∧ Reps H0 ds xs ∧ Reps H0 ds ys ∧ d.size = 1 + D.sizes ds ∧ ((H0 a = some (.tup xs) ∧ H0 b = some (.tup ys)) ∨ (H0 a = some (.lst xs) ∧ H0 b = some (.lst ys))) := by
  cases d <;> simp only [Rep] at r r'
  · cases k
  · cases k
  · cases k
  · cases k
  · rename_i ds
    obtain ⟨a, xs, rfl, ha, ra⟩ := r
    obtain ⟨b, ys, rfl, hb, rb⟩ := r'
    exact ⟨a, b, ds, xs, ys, rfl, rfl, ra, rb, by simp only [D.size], .inl ⟨ha, hb⟩⟩
  · rename_i ds
    obtain ⟨a, xs, rfl, ha, ra⟩ := r
    obtain ⟨b, ys, rfl, hb, rb⟩ := r'
    exact ⟨a, b, ds, xs, ys, rfl, rfl, ra, rb, by simp only [D.size], .inr ⟨ha, hb⟩⟩
theorem Reps.len2 {ds : List D} {xs ys : List V} (h : Reps H ds xs) (h' : Reps H ds ys) : xs.length = ys.length := h.len.trans h'.len.symm
theorem both_ex {a b : Addr} {xs ys : List V} (e : Ex H0 H) (h : (H0 a = some (.tup xs) ∧ H0 b = some (.tup ys)) ∨ (H0 a = some (.lst xs) ∧ H0 b = some (.lst ys))) : (H a = some (.tup xs) ∧ H b = some (.tup ys)) ∨ (H a = some (.lst xs) ∧ H b = some (.lst ys)) := by
  rcases h with ⟨h1, h2⟩ | ⟨h1, h2⟩
  · exact .inl ⟨e _ _ h1, e _ _ h2⟩
  · exact .inr ⟨e _ _ h1, e _ _ h2⟩
theorem both_sq {a b : Addr} {xs ys : List V} (h : (H a = some (.tup xs) ∧ H b = some (.tup ys)) ∨ (H a = some (.lst xs) ∧ H b = some (.lst ys))) : (SqT K H a xs ∧ SqT K H b ys) ∨ (SqL K H a xs ∧ SqL K H b ys) := by
  rcases h with ⟨h1, h2⟩ | ⟨h1, h2⟩
  · exact .inl ⟨sqT h1, sqT h2⟩
  · exact .inr ⟨sqL h1, sqL h2⟩
theorem g_len2a {a b : Addr} {xs ys : List V} (h : (H a = some (.tup xs) ∧ H b = some (.tup ys)) ∨ (H a = some (.lst xs) ∧ H b = some (.lst ys))) (q : Q (.int (xs.length : Nat)) H) : uLen K [.ref a] H Q := by
  rcases h with ⟨h1, h2⟩ | ⟨h1, h2⟩
  · exact g_lenT h1 q
  · exact g_lenL h1 q
theorem g_len2b {a b : Addr} {xs ys : List V} (h : (H a = some (.tup xs) ∧ H b = some (.tup ys)) ∨ (H a = some (.lst xs) ∧ H b = some (.lst ys))) (q : Q (.int (ys.length : Nat)) H) : uLen K [.ref b] H Q := by
  rcases h with ⟨h1, h2⟩ | ⟨h1, h2⟩
  · exact g_lenT h2 q
  · exact g_lenL h2 q
theorem g_lz {ta : TA} {σ : L2.St} (h : ta σ H fun vs H1 => ∃ a b xs ys, vs = [.ref a, .ref b] ∧ xs.length = ys.length ∧ ((SqT K H1 a xs ∧ SqT K H1 b ys) ∨ (SqL K H1 a xs ∧ SqL K H1 b ys)) ∧
  ∀ (H' : Hp) (p : Addr) (ts : List Addr), Ex H1 H' → H1 p = none → (∀ t ∈ ts, H1 t = none) → p ∉ ts → H' p = some (.lst (ts.map V.ref)) → Prz H' ts xs ys → Q (.ref p) H') : uLZ K ta σ H Q := h
end
/-- a pair of two of one reading -/
def Pr (H0 H1 : Hp) (d : D) (t : V) : Prop := ∃ a v w, t = .ref a ∧ H1 a = some (.tup [v, w]) ∧ Rep H0 d v ∧ Rep H0 d w
/-- a pile of such, of a size in all -/
inductive PrS (H0 H1 : Hp) : Nat → List V → Prop where
  | nil : PrS H0 H1 0 []
  | snoc {n : Nat} {ts : List V} {d : D} {t : V} (h : PrS H0 H1 n ts) (r : Pr H0 H1 d t) : PrS H0 H1 (n + d.size) (ts ++ [t])
theorem PrS.len {H0 H1 : Hp} {n : Nat} {ts : List V} (h : PrS H0 H1 n ts) : ts.length ≤ n := by
  induction h with
  | nil => exact Nat.le_refl _
  | @snoc n ts d t h r ih =>
    have := d.size_pos
    rw [List.length_append, List.length_singleton]
    omega
theorem PrS.tk {H0 H1 H2 : Hp} {n : Nat} {ts : List V} (e : Tk H1 H2) (h : PrS H0 H1 n ts) : PrS H0 H2 n ts := by
  induction h with
  | nil => exact .nil
  | snoc h r ih =>
    obtain ⟨a, v, w, rfl, ha, rv, rw'⟩ := r
    exact .snoc ih ⟨a, v, w, rfl, e _ _ ha, rv, rw'⟩
theorem PrS.ext {H0 H1 : Hp} : ∀ {ds : List D} {xs ys : List V} {tl : List Addr} {n : Nat} {ts : List V}, Reps H0 ds xs → Reps H0 ds ys → Prz H1 tl xs ys → PrS H0 H1 n ts → PrS H0 H1 (n + D.sizes ds) (ts ++ tl.map V.ref)
  | [], xs, ys, tl, n, ts, hx, hy, hp, h => by
    simp only [Reps] at hx hy
    subst hx
    have e : tl = [] := List.eq_nil_of_length_eq_zero hp.1
    subst e
    simpa [D.sizes] using h
  | d :: ds, xs, ys, tl, n, ts, hx, hy, hp, h => by
    simp only [Reps] at hx hy
    obtain ⟨x, xr, rfl, rx, hx⟩ := hx
    obtain ⟨y, yr, rfl, ry, hy⟩ := hy
    cases tl with
    | nil => cases hp.1
    | cons t tl =>
      obtain ⟨x', y', ex, ey, ht⟩ := hp.2 0 t rfl
      cases ex
      cases ey
      have hp' : Prz H1 tl xr yr := ⟨Nat.succ.inj hp.1, fun j u hu => by
        obtain ⟨a, b, q⟩ := hp.2 (j + 1) u hu
        exact ⟨a, b, q⟩⟩
      have z := PrS.ext hx hy hp' (h.snoc ⟨t, x, y, rfl, ht, rx, ry⟩)
      have e1 : n + D.sizes (d :: ds) = n + d.size + D.sizes ds := by simp only [D.sizes]; omega
      have e2 : ts ++ (t :: tl).map V.ref = ts ++ [V.ref t] ++ tl.map V.ref := by simp
      rw [e1, e2]
      exact z
/-- what the comparison promises -/
def spAlike : Sp := fun vs H Q _ => ∃ (d : D) (v w : V), vs = [v, w] ∧ Rep H d v ∧ Rep H d w ∧ d.size ≤ 400000 ∧ ∀ H', Ex H H' → Q (.bl true) H'
theorem prz_len {H : Hp} {ts : List Addr} {xs ys : List V} (h : Prz H ts xs ys) : (ts.map V.ref).length = xs.length := by rw [List.length_map]; exact h.1
theorem sizes_len : ∀ ds : List D, ds.length ≤ D.sizes ds
  | [] => Nat.le_refl _
  | d :: ds => by
    have := sizes_len ds
    have := d.size_pos
    simp only [D.sizes, List.length_cons]
    omega
/-! ### isinstance of a caught error -/
theorem kit_sub {K : PySem.W.Frag} {C : Addr} {T : String} {b : Bool} (h : PySem.W.subIn K (.ref C) (.type T) = some b) (hm : PySem.W.kitMeta T = true := by decide +kernel) : PySem.W.kitOne K (.ref C) (.type T) = some b := by
  unfold PySem.W.kitOne PySem.W.kitCls
  show (if PySem.W.kitMeta T = true then PySem.W.subIn K (.ref C) (.type T) else none) = some b
  rw [if_pos hm]
  exact h
theorem kit_own {K : PySem.W.Frag} {C D : Addr} {b : Bool} (h : PySem.W.subIn K (.ref C) (.ref D) = some b) (hs : PySem.W.subIn K (.ref C) (.ref C) = some true) (hi : PySem.W.isClsIn K D = true) (ht : PySem.W.typeIn K (.ref D) = some (.type "type")) : PySem.W.kitOne K (.ref C) (.ref D) = some b := by
  unfold PySem.W.kitOne
  by_cases c : (Value.ref C == Value.ref D) = true
  · have e : Value.ref C = Value.ref D := beq_iff_eq.mp c
    rw [e] at h
    rw [if_pos c]
    cases e
    rw [h] at hs
    exact hs.symm
  · rw [if_neg c]
    have z : ((PySem.W.clsIn K D).isSome && PySem.W.typeIn K (.ref D) == some (.type "type")) = true := by
      have z1 : (PySem.W.clsIn K D).isSome = true := hi
      rw [z1, ht] <;> rfl
    show (if ((PySem.W.clsIn K D).isSome && PySem.W.typeIn K (.ref D) == some (.type "type")) = true then PySem.W.subIn K (.ref C) (.ref D) else none) = some b
    rw [if_pos z]
    exact h
def uIsE (K : PySem.W.Frag) (D a : Addr) (cls : Value) (d : Option Addr) : List V → Hp → VK → Prop := fun xs H Q => cls = .ref D ∧ d = none ∧ rIsE K D a xs H Q
theorem uk_isE {X : Cx} {a D : Addr} {oe : Obj} {pn : List (Addr × Obj)} {cls : Value} {d : Option Addr} (C : ExcC X.K D) (hz : Zc cls d oe) (hf : ∃ vs, oe.data = .fields vs) : CallR (X.suite a ((a, oe) :: pn)) (.builtin "isinstance") (uIsE X.K D a cls d) := by
  intro pins s σ H xs us Q I r h
  obtain ⟨rfl, rfl, h⟩ := h
  exact call_isE C hz hf pins s σ H xs us Q I r h
theorem g_isET {K : PySem.W.Frag} {D a : Addr} {T : String} {b : Bool} {H : Hp} {Q : VK} (h : PySem.W.kitOne K (.ref D) (.type T) = some b) (q : Q (.bl b) H) : uIsE K D a (.ref D) none [.ref a, .ty T] H Q := ⟨rfl, rfl, _, _, b, rfl, fun u z => z, h, q⟩
theorem g_isEC {K : PySem.W.Frag} {D C a : Addr} {b : Bool} {H : Hp} {Q : VK} (h : PySem.W.kitOne K (.ref D) (.ref C) = some b) (q : Q (.bl b) H) : uIsE K D a (.ref D) none [.ref a, .ref C] H Q := ⟨rfl, rfl, _, _, b, rfl, fun u z => z, h, q⟩
/-! ### lowest terms, as the laws find them -/
theorem max_fpt {u l : Int} (h : 0 < l) : max 1 (Int.gcd u l : Int) = fpt u l := by
  have g : 0 < Int.gcd u l := Nat.pos_of_ne_zero fun z => by
    have := (Int.gcd_eq_zero_iff.1 z).2
    omega
  unfold fpt
  rw [if_neg (by omega)]
  omega
theorem sgn_of (l : Int) : (1 - 2 * b2z (decide (l < 0)) : Int) = if l < 0 then -1 else 1 := by
  by_cases c : l < 0
  · rw [decide_eq_true c, if_pos c]; rfl
  · rw [decide_eq_false c, if_neg c]; rfl
theorem fpt_sgn {u l : Int} (h : l ≠ 0) : fpt (u * (1 - 2 * b2z (decide (l < 0)))) (l.natAbs : Nat) = (Int.gcd u l : Nat) := by
  have e : fpt (u * (1 - 2 * b2z (decide (l < 0)))) (l.natAbs : Nat) = (Int.gcd (u * (1 - 2 * b2z (decide (l < 0)))) (l.natAbs : Nat) : Nat) := if_neg (by omega)
  rw [e, sgn_of]
  congr 1
  unfold Int.gcd
  rw [Int.natAbs_mul, Int.natAbs_natCast]
  split <;> simp
theorem fru_sgn {u l : Int} (h : l ≠ 0) : fru (u * (1 - 2 * b2z (decide (l < 0)))) (l.natAbs : Nat) = fru u l := by
  unfold fru
  rw [fpt_sgn h, sgn_of]
  unfold fpt
  by_cases c : l < 0
  · rw [if_pos c, if_pos c, Int.zero_sub, Int.mul_neg, Int.mul_one]
    have := Int.neg_fdiv_neg u (-(Int.gcd u l : Nat))
    rw [Int.neg_neg] at this
    exact this
  · rw [if_neg c, if_neg c, Int.mul_one]
theorem frl_sgn {u l : Int} (h : l ≠ 0) : frl (u * (1 - 2 * b2z (decide (l < 0)))) (l.natAbs : Nat) = frl u l := by
  unfold frl
  rw [fpt_sgn h]
  unfold fpt
  by_cases c : l < 0
  · have e : ((l.natAbs : Nat) : Int) = -l := by omega
    rw [if_pos c, e, Int.zero_sub]
    have := Int.neg_fdiv_neg l (-(Int.gcd u l : Nat))
    rw [Int.neg_neg] at this
    exact this
  · have e : ((l.natAbs : Nat) : Int) = l := by omega
    rw [if_neg c, e]
theorem b2z_bits (b : Bool) : Bits 1 (b2z b) := by cases b <;> decide
/-- lowest(u, l), l above nought -/
def spLow : Sp := fun vs H Q _ => ∃ u l : Int, vs = [.int u, .int l] ∧ Bits 2000 u ∧ Bits 2000 l ∧ 0 < l ∧ ∀ p, H p = none → Q (.ref p) (upd H p (.tup [.int (fru u l), .int (frl u l)]))
/-- the fraction, or none -/
def spMade : Sp := fun vs H Q _ => ∃ u l : Int, vs = [.int u, .int l] ∧ Bits 900 u ∧ Bits 900 l ∧ (l = 0 → Q .non H) ∧ (l ≠ 0 → ∀ p, H p = none → Q (.ref p) (upd H p (.tup [.int (fru u l), .int (frl u l)])))
theorem Rep.two {H : Hp} {a : Addr} {x y : V} {d e : D} (h : H a = some (.tup [x, y])) (r : Rep H d x) (s : Rep H e y) : Rep H (.tup [d, e]) (.ref a) := by
  simp only [Rep, Reps]
  exact ⟨a, _, rfl, h, x, _, rfl, r, y, _, rfl, s, rfl⟩
theorem Rep.three {H : Hp} {a : Addr} {x y z : V} {d e f : D} (h : H a = some (.tup [x, y, z])) (r : Rep H d x) (s : Rep H e y) (t : Rep H f z) : Rep H (.tup [d, e, f]) (.ref a) := by
  simp only [Rep, Reps]
  exact ⟨a, _, rfl, h, x, _, rfl, r, y, _, rfl, s, z, _, rfl, t, rfl⟩
theorem Rep.i {H : Hp} (n : Int) : Rep H (.int n) (.int n) := by simp only [Rep]
theorem Rep.s {H : Hp} (n : Str) : Rep H (.str n) (.str n) := by simp only [Rep]
theorem Rep.b {H : Hp} (n : Bool) : Rep H (.bl n) (.bl n) := by simp only [Rep]
theorem Rep.n {H : Hp} : Rep H .non .non := by simp only [Rep]
/-- a drawn whole number -/
def spWhole : Sp := fun vs H Q _ => ∃ p : Addr, vs = [.ref p] ∧ Box H p ∧ ∀ (i : Int) (H' : Hp), Bits 110 i → But p H H' → Box H' p → Q (.int i) H'
theorem fru_one (u : Int) : fru u 1 = u := by
  unfold fru fpt
  rw [if_neg (by decide), Int.gcd_one_right]
  exact Int.fdiv_one u
theorem frl_one (u : Int) : frl u 1 = 1 := by
  unfold frl fpt
  rw [if_neg (by decide), Int.gcd_one_right]
  rfl
/-- a fraction of the laws, as it stands -/
def Fr (H : Hp) (p : Addr) (a b : Int) : Prop := H p = some (.tup [.int a, .int b]) ∧ Bits 300 a ∧ Bits 300 b ∧ 0 < b
def spBoth : Sp := fun vs H Q _ => ∃ (p r : Addr) (a b c d : Int), vs = [.ref p, .ref r] ∧ Fr H p a b ∧ Fr H r c d ∧ ∀ H', Ex H H' → Q (.bl true) H'
theorem size2 (x y : Int) : (D.tup [.int x, .int y]).size ≤ 400000 := by
  simp only [D.size, D.sizes]
  decide
/-- such a one, as a value -/
def Good (H : Hp) (v : V) : Prop := ∃ (p : Addr) (a b : Int), v = .ref p ∧ Fr H p a b
theorem Good.ex {H H' : Hp} {v : V} (e : Ex H H') (g : Good H v) : Good H' v := by
  obtain ⟨p, a, b, rfl, h, x⟩ := g
  exact ⟨p, a, b, rfl, e _ _ h, x⟩
theorem Good.tk {H H' : Hp} {v : V} (e : Tk H H') (g : Good H v) : Good H' v := by
  obtain ⟨p, a, b, rfl, h, x⟩ := g
  exact ⟨p, a, b, rfl, e _ _ h, x⟩
theorem Good.fr {H : Hp} {p : Addr} {u l : Int} (h : H p = some (.tup [.int (fru u l), .int (frl u l)])) (hl : l ≠ 0) (bu : Bits 300 u) (bl : Bits 300 l) : Good H (.ref p) := ⟨p, _, _, rfl, h, fru_bits hl bu, frl_bits hl bl, frl_pos hl⟩
def MadeV (H : Hp) (u l : Int) (v : V) : Prop := (l = 0 ∧ v = .non) ∨ (l ≠ 0 ∧ ∃ p, v = .ref p ∧ H p = some (.tup [.int (fru u l), .int (frl u l)]))
theorem spMade.of {H : Hp} {Q : VK} {E : XK} {u l : Int} (bu : Bits 900 u) (bl : Bits 900 l) (h : ∀ v H', Ex H H' → MadeV H' u l v → Q v H') : spMade [.int u, .int l] H Q E :=
  ⟨u, l, rfl, bu, bl, fun z => h _ _ (Ex.refl _) (.inl ⟨z, rfl⟩), fun z p hp => h _ _ (Ex.new hp) (.inr ⟨z, p, rfl, upd_same⟩)⟩
section
variable {K : PySem.W.Frag} {H : Hp} {Q : VK} {σ : L2.St}
theorem g_sl {r : V → Option Int → Option Int → Hp → VK → Prop} {te : TE} {tl th : TO} (h : te σ H fun x H1 => tl σ H1 fun l H2 => th σ H2 fun u H3 => r x l u H3 Q) : tSl r te tl th σ H Q := h
theorem g_noP {P : Option Int → Hp → Prop} (h : P none H) : tNoPart σ H P := h
theorem g_slL {a : Addr} {xs : List V} {lo hi : Option Int} (ha : H a = some (.lst xs)) (h : ∀ p, H p = none → Q (.ref p) (upd H p (.lst (cutV xs lo hi)))) : rSlL K (.ref a) lo hi H Q := ⟨a, xs, rfl, sqL ha, h⟩
theorem g_catL {a b : Addr} {xs ys : List V} (ha : H a = some (.lst xs)) (hb : H b = some (.lst ys)) (hl : xs.length + ys.length ≤ 1000000) (h : ∀ p, H p = none → Q (.ref p) (upd H p (.lst (xs ++ ys)))) : uAdd K (.ref a) (.ref b) H Q :=
  .inl ⟨a, b, xs, ys, rfl, rfl, ha, hb, Nat.le_trans hl (by decide), h⟩
theorem g_part {te : TE} {P : Option Int → Hp → Prop} (h : te σ H fun x H1 => ∃ i, x = .int i ∧ P (some i) H1) : tPart te σ H P := h
theorem g_exI {i : Int} {P : Int → Prop} (h : P i) : ∃ j, V.int i = .int j ∧ P j := ⟨i, rfl, h⟩
end
theorem g_zipA {K : PySem.W.Frag} {ta : TA} {σ : L2.St} {H : Hp} {R : It → Hp → Prop} (h : ta σ H fun vs H1 => ∃ a b xs ys, vs = [.ref a, .ref b] ∧ ((SqL K H1 a xs ∧ SqL K H1 b ys ∧ R (Itz K a b) H1) ∨ (SqT K H1 a xs ∧ SqT K H1 b ys ∧ R (RZ.ItzT K a b) H1))) : RZ.iZipA K ta σ H R := h
theorem cutV_mem {xs : List V} {lo hi : Option Int} {v : V} (h : v ∈ cutV xs lo hi) : v ∈ xs := List.mem_of_mem_drop (List.mem_of_mem_take h)
end Bk

namespace Lw
open PySem PySem.Spec PyProof.Rows L2 Bk

local macro_rules | `(tactic| walk_at "side") => `(tactic| first | assumption | decide | omega | exact .inl (.inl ⟨by decide, by decide⟩) | exact .inl (.inr ⟨by decide, by decide⟩) | exact ⟨by decide, by decide, by decide⟩ | exact ⟨by decide, by decide⟩)
local macro_rules | `(tactic| walk_at "heap") => `(tactic| first | assumption | exact upd_same | (refine Eq.trans (upd_ne (ne_of_none (by assumption) (by assumption))) ?_; assumption))
local macro_rules | `(tactic| walk_at "go1") => `(tactic| with_reducible first
  | refine g_seq ?_ | refine g_asg ?_ | refine g_ret ?_ | refine g_retN ?_ | refine g_drop ?_ | refine g_ifs ?_ | refine g_next ?_ | refine g_par ?_ | refine g_pair ?_ | refine g_name ?_ | refine g_sub ?_
  | refine g_c ?_ | refine g_op ?_ | refine g_un ?_ | refine g_cons ?_ | refine g_nil ?_ | refine g_cb ?_ | refine g_call ?_ | refine g_if ?_ | refine g_iT ?_ | refine g_iF ?_ | refine g_iNT ?_ | refine g_iNF ?_ | refine g_notV ?_ | refine g_not ?_ | refine g_and ?_ | refine g_or ?_
  | refine g_uT ?_ | refine g_test ?_ | refine g_tB ?_ | refine g_bl ?_ | refine g_chain ?_ | refine g_andV ?_ | refine g_orV ?_ | refine g_tbl ?_ | refine g_tin ?_ | refine g_addI ?_ | refine g_i0 ?_ | refine g_neg ?_ | refine g_eqI ?_ | refine g_neI ?_ | refine g_eqS ?_ | refine g_neS ?_ | refine g_neBB ?_ | refine g_neB ?_ | refine g_lz ?_ | refine g_for ?_ | refine g_rng1 ?_ | refine g_rng2 ?_ | refine g_zipA ?_ | refine g_sl ?_ | refine g_noP ?_ | refine g_part ?_ | refine g_exI ?_ | refine g_isNn ?_ | refine g_isNr ?_ | refine g_isNi ?_ | refine g_notNn ?_ | refine g_notNr ?_ | refine g_notNi ?_
  | refine g_abs ?_ | refine g_max ?_ | refine g_min ?_ | refine g_intI ?_ | refine g_intB ?_ | refine g_tup ?_ | refine g_lst ?_ | refine g_bm0 ?_ | refine g_bm ?_)
local macro_rules | `(tactic| walk_at "go2") => `(tactic| first
  | refine g_var rfl ?_ | (refine g_i ?_ (by walk_at "side"))
  | (refine g_lenL (by assumption) ?_) | (refine g_lenT (by assumption) ?_) | (refine g_lenSq (by assumption) ?_)
  | (refine g_ixL (by assumption) (by rfl) ?_) | (refine g_ixT (by assumption) (by rfl) ?_)
  | (refine g_tyL (by assumption) ?_))
local macro_rules | `(tactic| walk_at "go") => `(tactic| repeat (first | walk_at "go1" | walk_at "go2"))

def top (i : Nat) : Stmt := PySem.Challenge.pw_boughkept_k01_fractions_reckoned.main.body.getD i (.Pass ⟨0, 0, 0, 0⟩)
abbrev sI_Nought : Stmt := inClass (top 2) 0
theorem scI_Nought : FnScope ["self"] ["self"] (defScope sI_Nought) := ⟨rfl, rfl, rfl, by decide +kernel, rfl, by decide +kernel, by decide +kernel⟩
abbrev s_common_part : Stmt := top 4
abbrev N_common_part : List Str := ["one", "other"]
theorem sc_common_part : FnScope ["one", "other"] ["one", "other"] (defScope s_common_part) := ⟨rfl, rfl, rfl, by decide +kernel, rfl, by decide +kernel, by decide +kernel⟩
abbrev s_fraction_of : Stmt := top 5
abbrev N_fraction_of : List Str := ["upper", "lower", "part"]
theorem sc_fraction_of : FnScope ["upper", "lower", "part"] ["upper", "lower"] (defScope s_fraction_of) := ⟨rfl, rfl, rfl, by decide +kernel, rfl, by decide +kernel, by decide +kernel⟩
abbrev s_added : Stmt := top 6
abbrev N_added : List Str := ["one", "other"]
theorem sc_added : FnScope ["one", "other"] ["one", "other"] (defScope s_added) := ⟨rfl, rfl, rfl, by decide +kernel, rfl, by decide +kernel, by decide +kernel⟩
abbrev s_taken_away : Stmt := top 7
abbrev N_taken_away : List Str := ["one", "other"]
theorem sc_taken_away : FnScope ["one", "other"] ["one", "other"] (defScope s_taken_away) := ⟨rfl, rfl, rfl, by decide +kernel, rfl, by decide +kernel, by decide +kernel⟩
abbrev s_multiplied : Stmt := top 8
abbrev N_multiplied : List Str := ["one", "other"]
theorem sc_multiplied : FnScope ["one", "other"] ["one", "other"] (defScope s_multiplied) := ⟨rfl, rfl, rfl, by decide +kernel, rfl, by decide +kernel, by decide +kernel⟩
abbrev s_divided : Stmt := top 9
abbrev N_divided : List Str := ["one", "other"]
theorem sc_divided : FnScope ["one", "other"] ["one", "other"] (defScope s_divided) := ⟨rfl, rfl, rfl, by decide +kernel, rfl, by decide +kernel, by decide +kernel⟩
abbrev s_is_less : Stmt := top 10
abbrev N_is_less : List Str := ["one", "other"]
theorem sc_is_less : FnScope ["one", "other"] ["one", "other"] (defScope s_is_less) := ⟨rfl, rfl, rfl, by decide +kernel, rfl, by decide +kernel, by decide +kernel⟩
abbrev s_law_box : Stmt := top 12
abbrev N_law_box : List Str := ["_law_script", "_law_k", "_law_cell", "_law_seed"]
theorem sc_law_box : FnScope ["_law_script", "_law_k", "_law_cell", "_law_seed"] ["_law_script", "_law_k"] (defScope s_law_box) := ⟨rfl, rfl, rfl, by decide +kernel, rfl, by decide +kernel, by decide +kernel⟩
abbrev s_law_take : Stmt := top 13
abbrev N_law_take : List Str := ["_law_box_here", "_law_many", "_law_digit", "_law_one"]
theorem sc_law_take : FnScope ["_law_box_here", "_law_many", "_law_digit", "_law_one"] ["_law_box_here", "_law_many"] (defScope s_law_take) := ⟨rfl, rfl, rfl, by decide +kernel, rfl, by decide +kernel, by decide +kernel⟩
abbrev s_law_alike : Stmt := top 14
abbrev N_law_alike : List Str := ["_law_found", "_law_due", "_law_left", "_law_one", "_law_other"]
theorem sc_law_alike : FnScope ["_law_found", "_law_due", "_law_left", "_law_one", "_law_other"] ["_law_found", "_law_due"] (defScope s_law_alike) := ⟨rfl, rfl, rfl, by decide +kernel, rfl, by decide +kernel, by decide +kernel⟩
abbrev s_law_shared : Stmt := top 15
abbrev N_law_shared : List Str := ["_law_one", "_law_other"]
theorem sc_law_shared : FnScope ["_law_one", "_law_other"] ["_law_one", "_law_other"] (defScope s_law_shared) := ⟨rfl, rfl, rfl, by decide +kernel, rfl, by decide +kernel, by decide +kernel⟩
abbrev s_law_lowest : Stmt := top 16
abbrev N_law_lowest : List Str := ["_law_upper", "_law_lower", "_law_part"]
theorem sc_law_lowest : FnScope ["_law_upper", "_law_lower", "_law_part"] ["_law_upper", "_law_lower"] (defScope s_law_lowest) := ⟨rfl, rfl, rfl, by decide +kernel, rfl, by decide +kernel, by decide +kernel⟩
abbrev s_law_whole : Stmt := top 17
abbrev N_law_whole : List Str := ["_law_box_here", "_law_wide"]
theorem sc_law_whole : FnScope ["_law_box_here", "_law_wide"] ["_law_box_here"] (defScope s_law_whole) := ⟨rfl, rfl, rfl, by decide +kernel, rfl, by decide +kernel, by decide +kernel⟩
abbrev s_law_made_of : Stmt := top 18
abbrev N_law_made_of : List Str := ["_law_upper", "_law_lower"]
theorem sc_law_made_of : FnScope ["_law_upper", "_law_lower"] ["_law_upper", "_law_lower"] (defScope s_law_made_of) := ⟨rfl, rfl, rfl, by decide +kernel, rfl, by decide +kernel, by decide +kernel⟩
abbrev s_law_heard : Stmt := top 19
abbrev N_law_heard : List Str := ["_law_which", "_law_one", "_law_other", "_law_found", "e"]
theorem sc_law_heard : FnScope ["_law_which", "_law_one", "_law_other", "_law_found", "e"] ["_law_which", "_law_one", "_law_other"] (defScope s_law_heard) := ⟨rfl, rfl, rfl, by decide +kernel, rfl, by decide +kernel, by decide +kernel⟩
abbrev s_law_right : Stmt := top 20
abbrev N_law_right : List Str := ["_law_which", "_law_one", "_law_other", "_law_due"]
theorem sc_law_right : FnScope ["_law_which", "_law_one", "_law_other", "_law_due"] ["_law_which", "_law_one", "_law_other", "_law_due"] (defScope s_law_right) := ⟨rfl, rfl, rfl, by decide +kernel, rfl, by decide +kernel, by decide +kernel⟩
abbrev s_law_both : Stmt := top 21
abbrev N_law_both : List Str := ["_law_one", "_law_other", "_law_a", "_law_b", "_law_c", "_law_d"]
theorem sc_law_both : FnScope ["_law_one", "_law_other", "_law_a", "_law_b", "_law_c", "_law_d"] ["_law_one", "_law_other"] (defScope s_law_both) := ⟨rfl, rfl, rfl, by decide +kernel, rfl, by decide +kernel, by decide +kernel⟩
abbrev s_law : Stmt := top 22
abbrev N_law : List Str := ["_law_script", "_law_some", "_law_k", "_law_box_here", "_law_upper", "_law_lower", "_law_due", "_law_one", "_law_other"]
theorem sc_law : FnScope ["_law_script", "_law_some", "_law_k", "_law_box_here", "_law_upper", "_law_lower", "_law_due", "_law_one", "_law_other"] ["_law_script"] (defScope s_law) := ⟨rfl, rfl, rfl, by decide +kernel, rfl, by decide +kernel, by decide +kernel⟩
structure Txt (K : PySem.W.Frag) (mg : Str → Option Value) where
  a_BoughError : Addr
  m_BoughError : mg "BoughError" = some (.ref a_BoughError)
  x_BoughError : OexB K a_BoughError "ValueError.__new__" [.type "ValueError", .type "Exception", .type "BaseException", .type "object"]
  e_BoughError : PySem.W.exmOne K (.ref a_BoughError) (.ref a_BoughError) = some true
  c_BoughError : ExcC K a_BoughError
  i0_BoughError : PySem.W.isClsIn K a_BoughError = true
  t0_BoughError : PySem.W.typeIn K (.ref a_BoughError) = some (.type "type")
  s0_BoughError : PySem.W.subIn K (.ref a_BoughError) (.ref a_BoughError) = some true
  h_BoughError : XiC K a_BoughError "ValueError.__init__"
  a_Nought : Addr
  m_Nought : mg "Nought" = some (.ref a_Nought)
  x_Nought : OexB K a_Nought "ZeroDivisionError.__new__" [.type "ZeroDivisionError", .type "ArithmeticError", .type "Exception", .type "BaseException", .type "object"]
  e_Nought : PySem.W.exmOne K (.ref a_Nought) (.ref a_Nought) = some true
  c_Nought : ExcC K a_Nought
  i0_Nought : PySem.W.isClsIn K a_Nought = true
  t0_Nought : PySem.W.typeIn K (.ref a_Nought) = some (.type "type")
  s0_Nought : PySem.W.subIn K (.ref a_Nought) (.ref a_Nought) = some true
  aI_Nought : Addr
  dI_Nought : FuncData
  FI_Nought : Fun K "__init__" "Nought.__init__" sI_Nought aI_Nought dI_Nought
  bI_Nought : Binds K dI_Nought ["self"] []
  i_Nought : PySem.W.findIn K (.ref a_Nought) "__init__" = some (some (.ref aI_Nought))
  t_Nought : PySem.W.typeIn K (.ref aI_Nought) = some (.type "function")
  v_ValueError : PySem.W.findCls K (.type "ValueError") (.type "type") "__init__" = some (.val (.builtin "ValueError.__init__"))
  v_ZeroDivisionError : PySem.W.findCls K (.type "ZeroDivisionError") (.type "type") "__init__" = some (.val (.builtin "ZeroDivisionError.__init__"))
  a_common_part : Addr
  d_common_part : FuncData
  m_common_part : mg "common_part" = some (.ref a_common_part)
  b_common_part : Binds K d_common_part ["one", "other"] []
  F_common_part : Fun K "common_part" "common_part" s_common_part a_common_part d_common_part
  a_fraction_of : Addr
  d_fraction_of : FuncData
  m_fraction_of : mg "fraction_of" = some (.ref a_fraction_of)
  b_fraction_of : Binds K d_fraction_of ["upper", "lower"] []
  F_fraction_of : FunD K "fraction_of" "fraction_of" (defArgs s_fraction_of) (defBody s_fraction_of) (defScope s_fraction_of) [.int 1] [] a_fraction_of d_fraction_of
  bv_fraction_of1 : ∃ ds, Vals [.int 1] ds ∧ Binds K d_fraction_of ["upper", "lower"] ds
  a_added : Addr
  d_added : FuncData
  m_added : mg "added" = some (.ref a_added)
  b_added : Binds K d_added ["one", "other"] []
  F_added : Fun K "added" "added" s_added a_added d_added
  a_taken_away : Addr
  d_taken_away : FuncData
  m_taken_away : mg "taken_away" = some (.ref a_taken_away)
  b_taken_away : Binds K d_taken_away ["one", "other"] []
  F_taken_away : Fun K "taken_away" "taken_away" s_taken_away a_taken_away d_taken_away
  a_multiplied : Addr
  d_multiplied : FuncData
  m_multiplied : mg "multiplied" = some (.ref a_multiplied)
  b_multiplied : Binds K d_multiplied ["one", "other"] []
  F_multiplied : Fun K "multiplied" "multiplied" s_multiplied a_multiplied d_multiplied
  a_divided : Addr
  d_divided : FuncData
  m_divided : mg "divided" = some (.ref a_divided)
  b_divided : Binds K d_divided ["one", "other"] []
  F_divided : Fun K "divided" "divided" s_divided a_divided d_divided
  a_is_less : Addr
  d_is_less : FuncData
  m_is_less : mg "is_less" = some (.ref a_is_less)
  b_is_less : Binds K d_is_less ["one", "other"] []
  F_is_less : Fun K "is_less" "is_less" s_is_less a_is_less d_is_less
  a_law_box : Addr
  d_law_box : FuncData
  m_law_box : mg "_law_box" = some (.ref a_law_box)
  b_law_box : Binds K d_law_box ["_law_script", "_law_k"] []
  F_law_box : Fun K "_law_box" "_law_box" s_law_box a_law_box d_law_box
  a_law_take : Addr
  d_law_take : FuncData
  m_law_take : mg "_law_take" = some (.ref a_law_take)
  b_law_take : Binds K d_law_take ["_law_box_here", "_law_many"] []
  F_law_take : Fun K "_law_take" "_law_take" s_law_take a_law_take d_law_take
  a_law_alike : Addr
  d_law_alike : FuncData
  m_law_alike : mg "_law_alike" = some (.ref a_law_alike)
  b_law_alike : Binds K d_law_alike ["_law_found", "_law_due"] []
  F_law_alike : Fun K "_law_alike" "_law_alike" s_law_alike a_law_alike d_law_alike
  a_law_shared : Addr
  d_law_shared : FuncData
  m_law_shared : mg "_law_shared" = some (.ref a_law_shared)
  b_law_shared : Binds K d_law_shared ["_law_one", "_law_other"] []
  F_law_shared : Fun K "_law_shared" "_law_shared" s_law_shared a_law_shared d_law_shared
  a_law_lowest : Addr
  d_law_lowest : FuncData
  m_law_lowest : mg "_law_lowest" = some (.ref a_law_lowest)
  b_law_lowest : Binds K d_law_lowest ["_law_upper", "_law_lower"] []
  F_law_lowest : Fun K "_law_lowest" "_law_lowest" s_law_lowest a_law_lowest d_law_lowest
  a_law_whole : Addr
  d_law_whole : FuncData
  m_law_whole : mg "_law_whole" = some (.ref a_law_whole)
  b_law_whole : Binds K d_law_whole ["_law_box_here"] []
  F_law_whole : Fun K "_law_whole" "_law_whole" s_law_whole a_law_whole d_law_whole
  a_law_made_of : Addr
  d_law_made_of : FuncData
  m_law_made_of : mg "_law_made_of" = some (.ref a_law_made_of)
  b_law_made_of : Binds K d_law_made_of ["_law_upper", "_law_lower"] []
  F_law_made_of : Fun K "_law_made_of" "_law_made_of" s_law_made_of a_law_made_of d_law_made_of
  a_law_heard : Addr
  d_law_heard : FuncData
  m_law_heard : mg "_law_heard" = some (.ref a_law_heard)
  b_law_heard : Binds K d_law_heard ["_law_which", "_law_one", "_law_other"] []
  F_law_heard : Fun K "_law_heard" "_law_heard" s_law_heard a_law_heard d_law_heard
  a_law_right : Addr
  d_law_right : FuncData
  m_law_right : mg "_law_right" = some (.ref a_law_right)
  b_law_right : Binds K d_law_right ["_law_which", "_law_one", "_law_other", "_law_due"] []
  F_law_right : Fun K "_law_right" "_law_right" s_law_right a_law_right d_law_right
  a_law_both : Addr
  d_law_both : FuncData
  m_law_both : mg "_law_both" = some (.ref a_law_both)
  b_law_both : Binds K d_law_both ["_law_one", "_law_other"] []
  F_law_both : Fun K "_law_both" "_law_both" s_law_both a_law_both d_law_both
  a_law : Addr
  d_law : FuncData
  m_law : mg "law" = some (.ref a_law)
  b_law : Binds K d_law ["_law_script"] []
  F_law : Fun K "law" "law" s_law a_law d_law
  z_ValueError : mg "ValueError" = none
  z_ZeroDivisionError : mg "ZeroDivisionError" = none
  z_abs : mg "abs" = none
  z_bool : mg "bool" = none
  z_int : mg "int" = none
  z_isinstance : mg "isinstance" = none
  z_len : mg "len" = none
  z_list : mg "list" = none
  z_max : mg "max" = none
  z_min : mg "min" = none
  z_range : mg "range" = none
  z_tuple : mg "tuple" = none
  z_zip : mg "zip" = none
  sNZ : PySem.W.subIn K (.ref a_Nought) (.type "ZeroDivisionError") = some true
  sNB : PySem.W.subIn K (.ref a_Nought) (.ref a_BoughError) = some false
section
variable {P : Program} {w : World} {K : PySem.W.Frag} {mg : Str → Option Value} {base : Heap}
def spInit0 (K : PySem.W.Frag) (newId : String) (bmB : List Value) : Sp := fun vs H Q _ => ∃ (a C : Addr), vs = [.ref a] ∧ OexB K C newId bmB ∧ H a = some (exo a C none) ∧ Q .non H
theorem ok_init_Nought (T : Txt K mg) (z : mg "ZeroDivisionError" = none) : FnOk P w K mg base (L2.CX P w) 1 T.aI_Nought T.dI_Nought ["self"] (spInit0 K "ZeroDivisionError.__new__" [.type "ZeroDivisionError", .type "ArithmeticError", .type "Exception", .type "BaseException", .type "object"]) := by
  refine T.FI_Nought.okX scI_Nought (fun vs H Q E h => ?_) (fun cdv A outer s H vs Q E hr h => ?_)
  · obtain ⟨a, C, rfl, _⟩ := h
    rfl
  obtain ⟨a, C, rfl, ho, ha, q⟩ := h
  refine ⟨_, pss_one (ps_expr (pe_xinitB PySem.F.excBase_ZeroDivisionError (by kernel_rfl) (by decide +kernel) rfl z (by decide +kernel) T.v_ZeroDivisionError (by decide +kernel) (pa_cons (uv 0) (pa_cons pe_str pa_nil)))), ?_⟩
  refine g_drop ?_
  show tCons (uV 0) _ _ _ _
  walk_at "go"
  exact ⟨C, by decide, ho, ha, q⟩

theorem gcd_fmod (x y : Int) : Int.gcd y (x.fmod y) = Int.gcd x y := by
  have e : x.fmod y = x - x.fdiv y * y := by
    have := Int.fmod_add_mul_fdiv x y
    rw [Int.mul_comm] at this
    omega
  rw [e, Int.gcd_comm x y, Int.gcd_sub_mul_right_right]
theorem fmod_less {x y : Int} (h : y ≠ 0) : (x.fmod y).natAbs < y.natAbs := by
  by_cases c : 0 < y
  · have a1 := Int.fmod_nonneg_of_pos x c
    have a2 := Int.fmod_lt_of_pos x c
    omega
  · have a1 := Int.fmod_nonneg_of_pos (-x) (b := -y) (by omega)
    have a2 := Int.fmod_lt_of_pos (-x) (b := -y) (by omega)
    rw [Int.neg_fmod_neg] at a1 a2
    omega
def spGcd : Sp := fun vs H Q _ => ∃ a b : Int, vs = [.int a, .int b] ∧ Q (.int (Int.gcd a b : Nat)) H
theorem ok_common_part (T : Txt K mg) : FnOk P w K mg base (L2.CX P w) 1 T.a_common_part T.d_common_part ["one", "other"] spGcd := by
  refine T.F_common_part.okX sc_common_part (fun vs H Q E h => ?_) (fun cdv A outer s H vs Q E hr h => ?_)
  · obtain ⟨a, b, rfl, _⟩ := h
    rfl
  obtain ⟨a, b, rfl, q⟩ := h
  refine ⟨_, (pss_cons (ps_while (passes_of rfl) (pt_cmpR op_ne (uv 1) pe_int (nomark _)) (pss_one (ps_par (i := 0) (j := 1) rfl sc_common_part.nd rfl rfl (by decide) rfl rfl (pa_cons (uv 1) (pa_cons (pe_op uo_mod (uv 0) (uv 1)) pa_nil)) rfl)))
      (pss_one (ps_ret (pe_callB uk_abs rfl T.z_abs boot_abs (pa_cons (uv 0) pa_nil))))), ?_⟩
  refine g_seq (g_while (fun m σ H1 => ∃ x y : Int, σ = [some (.int x), some (.int y)] ∧ H1 = H ∧ Int.gcd x y = Int.gcd a b ∧ m = y.natAbs) _ ⟨a, b, rfl, rfl, rfl, rfl⟩ ?_)
  rintro m σ H1 ⟨x, y, rfl, rfl, hg, rfl⟩
  walk_at "go"
  refine i_neI (fun c => g_wn ?_) fun c => ?_
  · walk_at "go"
    exact ⟨_, fmod_less c, y, x.fmod y, rfl, rfl, (gcd_fmod x y).trans hg, rfl⟩
  · walk_at "go"
    subst c
    rw [Int.gcd_zero_right] at hg
    rw [hg]
    exact q

theorem ok_fraction_of (T : Txt K mg) : FnOk P w K mg base (L2.CX P w) 3 T.a_fraction_of T.d_fraction_of ["upper", "lower"] (spFrac T.a_Nought) := by
  refine T.F_fraction_of.ok sc_fraction_of (fun vs H Q E h => ?_) (fun cdv A outer s H vs Q E hr h => ?_)
  · obtain ⟨a, b, rfl, _⟩ := h
    rfl
  obtain ⟨u, l, rfl, bu, bl, q0, q⟩ := h
  refine ⟨_, (pss_cons (ps_if (pt_cmpR op_eq (uv 1) pe_int (nomark _)) (pss_one (ps_raise rfl (takes_of rfl rfl rfl rfl) (pmk_x0 PySem.F.excBase_ZeroDivisionError T.x_Nought T.i_Nought T.t_Nought (ok_init_Nought T T.z_ZeroDivisionError) (hr.mono (by decide)) T.bI_Nought passL T.m_Nought rfl))) pss_nil)
      (pss_cons (ps_set (i := 2) sc_fraction_of.nd rfl (by first | exact Or.inl rfl | exact Or.inr rfl) (pe_callD (ok_common_part T) (hr.mono (by decide)) rfl T.m_common_part T.F_common_part.kp T.b_common_part .nil (fun σ => passAt (takes_of rfl rfl rfl rfl) σ) (pa_cons (uv 0) (pa_cons (uv 1) pa_nil))))
      (pss_cons (ps_if (pt_cmpR uo_lt (uv 1) pe_int (nomark _)) (pss_one (ps_set (i := 2) sc_fraction_of.nd rfl (by first | exact Or.inl rfl | exact Or.inr rfl) (pe_op uo_sub pe_int (uv 2)))) pss_nil)
      (pss_one (ps_ret (pe_tup (pa_cons (pe_op uo_fd (uv 0) (uv 2)) (pa_cons (pe_op uo_fd (uv 1) (uv 2)) pa_nil)))))))), ?_⟩
  walk_at "go"
  refine i_eqI (fun c => ?_) fun c => ?_
  · walk_at "go"
    intro a ha
    exact ⟨a, T.a_Nought, rfl, T.x_Nought, upd_same, rfl, rfl, q0 c⟩
  · walk_at "go"
    refine ⟨_, _, rfl, ?_⟩
    have fin : ∀ g : Int, g = fpt u l → _ := fun g e => by
      subst e
      exact q c
    have e0 := fpt_ne (u := u) c
    have cf : CFd u (fpt u l) := (fpt_bits c bl).fd e0
    have cl : CFd l (fpt u l) := (fpt_bits c bl).fd e0
    walk_at "go"
    refine i_d (fun k => ?_) fun k => ?_
    · have e : (0 : Int) - (Int.gcd u l : Nat) = fpt u l := (if_pos k).symm
      walk_at "go"
      rw [e]
      refine g_i ?_ cf
      walk_at "go"
      exact g_new (q c)
    · have e : ((Int.gcd u l : Nat) : Int) = fpt u l := (if_neg k).symm
      walk_at "go"
      rw [e]
      refine g_i ?_ cf
      walk_at "go"
      exact g_new (q c)

theorem ok_added (T : Txt K mg) : FnOk P w K mg base (L2.CX P w) 4 T.a_added T.d_added ["one", "other"] (spAr T.a_Nought (fun a b c d => a * d + c * b) (fun _ b _ d => b * d)) := by
  refine T.F_added.okX sc_added (fun vs H Q E h => ?_) (fun cdv A outer s H vs Q E hr h => ?_)
  · obtain ⟨_, _, _, _, _, _, rfl, _⟩ := h
    rfl
  obtain ⟨p, r, a, b, c, d, rfl, hp, hq, ba, bb, bc, bd, q0, q⟩ := h
  refine ⟨_, (pss_one (ps_ret (pe_callD (ok_fraction_of T) (hr.mono (by decide)) rfl T.m_fraction_of T.F_fraction_of.kp T.b_fraction_of .nil (fun σ => passAt (takes_of rfl rfl rfl rfl) σ) (pa_cons (pe_op uo_add (pe_op uo_mul (pe_ix ux_seq (uv 0) pe_int (fun _ _ => rfl)) (pe_ix ux_seq (uv 1) pe_int (fun _ _ => rfl))) (pe_op uo_mul (pe_ix ux_seq (uv 1) pe_int (fun _ _ => rfl)) (pe_ix ux_seq (uv 0) pe_int (fun _ _ => rfl)))) (pa_cons (pe_op uo_mul (pe_ix ux_seq (uv 0) pe_int (fun _ _ => rfl)) (pe_ix ux_seq (uv 1) pe_int (fun _ _ => rfl))) pa_nil))))), ?_⟩
  have m1 := Bits.cm ba bd
  have m2 := Bits.cm bb bd
  have m3 := Bits.cm bc bb
  have m4 := Bits.cm ba bc
  have m5 := Bits.cm bb bc
  have n1 := (ba.mul bd).le (m := 1000)
  have n2 := (bb.mul bd).le (m := 1000)
  have n3 := (bc.mul bb).le (m := 1000)
  have n4 := (ba.mul bc).le (m := 1000)
  have n5 := (bb.mul bc).le (m := 1000)
  walk_at "go"
  exact ⟨_, _, rfl, (n1.add n3).le, n2.le, q0, q⟩

theorem ok_taken_away (T : Txt K mg) : FnOk P w K mg base (L2.CX P w) 4 T.a_taken_away T.d_taken_away ["one", "other"] (spAr T.a_Nought (fun a b c d => a * d - c * b) (fun _ b _ d => b * d)) := by
  refine T.F_taken_away.okX sc_taken_away (fun vs H Q E h => ?_) (fun cdv A outer s H vs Q E hr h => ?_)
  · obtain ⟨_, _, _, _, _, _, rfl, _⟩ := h
    rfl
  obtain ⟨p, r, a, b, c, d, rfl, hp, hq, ba, bb, bc, bd, q0, q⟩ := h
  refine ⟨_, (pss_one (ps_ret (pe_callD (ok_fraction_of T) (hr.mono (by decide)) rfl T.m_fraction_of T.F_fraction_of.kp T.b_fraction_of .nil (fun σ => passAt (takes_of rfl rfl rfl rfl) σ) (pa_cons (pe_op uo_sub (pe_op uo_mul (pe_ix ux_seq (uv 0) pe_int (fun _ _ => rfl)) (pe_ix ux_seq (uv 1) pe_int (fun _ _ => rfl))) (pe_op uo_mul (pe_ix ux_seq (uv 1) pe_int (fun _ _ => rfl)) (pe_ix ux_seq (uv 0) pe_int (fun _ _ => rfl)))) (pa_cons (pe_op uo_mul (pe_ix ux_seq (uv 0) pe_int (fun _ _ => rfl)) (pe_ix ux_seq (uv 1) pe_int (fun _ _ => rfl))) pa_nil))))), ?_⟩
  have m1 := Bits.cm ba bd
  have m2 := Bits.cm bb bd
  have m3 := Bits.cm bc bb
  have m4 := Bits.cm ba bc
  have m5 := Bits.cm bb bc
  have n1 := (ba.mul bd).le (m := 1000)
  have n2 := (bb.mul bd).le (m := 1000)
  have n3 := (bc.mul bb).le (m := 1000)
  have n4 := (ba.mul bc).le (m := 1000)
  have n5 := (bb.mul bc).le (m := 1000)
  walk_at "go"
  exact ⟨_, _, rfl, (n1.sub n3).le, n2.le, q0, q⟩

theorem ok_multiplied (T : Txt K mg) : FnOk P w K mg base (L2.CX P w) 4 T.a_multiplied T.d_multiplied ["one", "other"] (spAr T.a_Nought (fun a _ c _ => a * c) (fun _ b _ d => b * d)) := by
  refine T.F_multiplied.okX sc_multiplied (fun vs H Q E h => ?_) (fun cdv A outer s H vs Q E hr h => ?_)
  · obtain ⟨_, _, _, _, _, _, rfl, _⟩ := h
    rfl
  obtain ⟨p, r, a, b, c, d, rfl, hp, hq, ba, bb, bc, bd, q0, q⟩ := h
  refine ⟨_, (pss_one (ps_ret (pe_callD (ok_fraction_of T) (hr.mono (by decide)) rfl T.m_fraction_of T.F_fraction_of.kp T.b_fraction_of .nil (fun σ => passAt (takes_of rfl rfl rfl rfl) σ) (pa_cons (pe_op uo_mul (pe_ix ux_seq (uv 0) pe_int (fun _ _ => rfl)) (pe_ix ux_seq (uv 1) pe_int (fun _ _ => rfl))) (pa_cons (pe_op uo_mul (pe_ix ux_seq (uv 0) pe_int (fun _ _ => rfl)) (pe_ix ux_seq (uv 1) pe_int (fun _ _ => rfl))) pa_nil))))), ?_⟩
  have m1 := Bits.cm ba bd
  have m2 := Bits.cm bb bd
  have m3 := Bits.cm bc bb
  have m4 := Bits.cm ba bc
  have m5 := Bits.cm bb bc
  have n1 := (ba.mul bd).le (m := 1000)
  have n2 := (bb.mul bd).le (m := 1000)
  have n3 := (bc.mul bb).le (m := 1000)
  have n4 := (ba.mul bc).le (m := 1000)
  have n5 := (bb.mul bc).le (m := 1000)
  walk_at "go"
  exact ⟨_, _, rfl, n4.le, n2.le, q0, q⟩

theorem ok_divided (T : Txt K mg) : FnOk P w K mg base (L2.CX P w) 4 T.a_divided T.d_divided ["one", "other"] (spAr T.a_Nought (fun a _ _ d => a * d) (fun _ b c _ => b * c)) := by
  refine T.F_divided.okX sc_divided (fun vs H Q E h => ?_) (fun cdv A outer s H vs Q E hr h => ?_)
  · obtain ⟨_, _, _, _, _, _, rfl, _⟩ := h
    rfl
  obtain ⟨p, r, a, b, c, d, rfl, hp, hq, ba, bb, bc, bd, q0, q⟩ := h
  refine ⟨_, (pss_one (ps_ret (pe_callD (ok_fraction_of T) (hr.mono (by decide)) rfl T.m_fraction_of T.F_fraction_of.kp T.b_fraction_of .nil (fun σ => passAt (takes_of rfl rfl rfl rfl) σ) (pa_cons (pe_op uo_mul (pe_ix ux_seq (uv 0) pe_int (fun _ _ => rfl)) (pe_ix ux_seq (uv 1) pe_int (fun _ _ => rfl))) (pa_cons (pe_op uo_mul (pe_ix ux_seq (uv 0) pe_int (fun _ _ => rfl)) (pe_ix ux_seq (uv 1) pe_int (fun _ _ => rfl))) pa_nil))))), ?_⟩
  have m1 := Bits.cm ba bd
  have m2 := Bits.cm bb bd
  have m3 := Bits.cm bc bb
  have m4 := Bits.cm ba bc
  have m5 := Bits.cm bb bc
  have n1 := (ba.mul bd).le (m := 1000)
  have n2 := (bb.mul bd).le (m := 1000)
  have n3 := (bc.mul bb).le (m := 1000)
  have n4 := (ba.mul bc).le (m := 1000)
  have n5 := (bb.mul bc).le (m := 1000)
  walk_at "go"
  exact ⟨_, _, rfl, n1.le, n5.le, q0, q⟩

theorem ok_is_less (T : Txt K mg) : FnOk P w K mg base (L2.CX P w) 1 T.a_is_less T.d_is_less ["one", "other"] spLess := by
  refine T.F_is_less.okX sc_is_less (fun vs H Q E h => ?_) (fun cdv A outer s H vs Q E hr h => ?_)
  · obtain ⟨_, _, _, _, _, _, rfl, _⟩ := h
    rfl
  obtain ⟨p, r, a, b, c, d, rfl, hp, hq, ba, bb, bc, bd, q⟩ := h
  refine ⟨_, (pss_one (ps_ret (pe_cmpR uo_lt (pe_op uo_mul (pe_ix ux_seq (uv 0) pe_int (fun _ _ => rfl)) (pe_ix ux_seq (uv 1) pe_int (fun _ _ => rfl))) (pe_op uo_mul (pe_ix ux_seq (uv 1) pe_int (fun _ _ => rfl)) (pe_ix ux_seq (uv 0) pe_int (fun _ _ => rfl))) (nomark _)))), ?_⟩
  have m1 := Bits.cm ba bd
  have m3 := Bits.cm bc bb
  walk_at "go"
  exact q

theorem ok_law_box (T : Txt K mg) : FnOk P w K mg base (L2.CX P w) 1 T.a_law_box T.d_law_box ["_law_script", "_law_k"] (spBox K) := by
  refine T.F_law_box.okX sc_law_box (fun vs H Q E h => ?_) (fun cdv A outer s H vs Q E hr h => ?_)
  · obtain ⟨p, ns, k, rfl, _⟩ := h
    rfl
  obtain ⟨p, ns, k, rfl, hS, hl, q⟩ := h
  refine ⟨_, (pss_cons (ps_set (i := 2) sc_law_box.nd rfl (by first | exact Or.inl rfl | exact Or.inr rfl) (pe_op uo_add (pe_op uo_mul pe_int (uv 1)) pe_int))
      (C8.pss_cut (ps_if (pt_cmpR uo_lt (uv 1) (pe_callB uk_len rfl T.z_len boot_len (pa_cons (uv 0) pa_nil)) (nomark _)) (pss_one (ps_set (i := 2) sc_law_box.nd rfl (by first | exact Or.inl rfl | exact Or.inr rfl) (pe_ix ux_seq (uv 0) (uv 1) (fun _ _ => rfl)))) (pss_one (ps_if (pt_cmpR uo_gt (pe_callB uk_len rfl T.z_len boot_len (pa_cons (uv 0) pa_nil)) pe_int (nomark _)) (pss_one (ps_set (i := 2) sc_law_box.nd rfl (by first | exact Or.inl rfl | exact Or.inr rfl) (pe_op uo_add (uv 2) (pe_op uo_mul (pe_op uo_mod (pe_ix ux_seq (uv 0) (pe_op uo_mod (uv 1) (pe_callB uk_len rfl T.z_len boot_len (pa_cons (uv 0) pa_nil))) (fun _ _ => rfl)) pe_int) pe_int)))) pss_nil)))
      (pss_cons (ps_set (i := 3) sc_law_box.nd rfl (by first | exact Or.inl rfl | exact Or.inr rfl) (pe_op uo_add (pe_op uo_mod (pe_op uo_add (pe_op uo_mul (pe_op uo_mod (uv 2) pe_int) pe_int) (pe_op uo_mul pe_int (uv 1))) pe_int) pe_int))
      (pss_one (ps_ret (pe_lst (pa_cons (pe_ix ux_seq (pe_lst (pa_cons pe_int (pa_cons (uv 2) pa_nil))) (pe_callTy uk_int rfl T.z_int boot_int (pa_cons (pe_cmpR uo_ge (uv 2) (pe_op uo_pow pe_int pe_int) (nomark _)) pa_nil)) (fun _ _ => rfl)) (pa_cons (uv 3) (pa_cons pe_int pa_nil))))))))), ?_⟩
  walk_at "go"
  refine ⟨fun σ' H' => (∃ x : Int, σ' = [some (V.ref p), some (V.int k), some (V.int x), none]) ∧ H' = H, ?_, ?_⟩
  · walk_at "go"
    refine i_d (fun c => ?_) fun c => ?_
    · walk_at "go"
      have c' : k < ns.length := by
        rw [List.length_map] at c
        omega
      refine g_ixSq hS (at_ints c') ?_
      walk_at "go"
      exact ⟨⟨_, rfl⟩, rfl⟩
    · walk_at "go"
      refine i_d (fun c => ?_) fun c => ?_
      · walk_at "go"
        have hn : (0 : Int) < ((ns.map V.int).length : Nat) := c
        have e : ((k : Int).fmod ((ns.map V.int).length : Nat)) = ((k % ns.length : Nat) : Int) := by
          rw [Int.fmod_eq_emod_of_nonneg _ (by omega), List.length_map]
          rfl
        have c' : k % ns.length < ns.length := Nat.mod_lt _ (by rw [List.length_map] at hn; omega)
        refine g_ixSq hS (by rw [e]; exact at_ints c') ?_
        walk_at "go"
        exact ⟨⟨_, rfl⟩, rfl⟩
      · walk_at "go"
        exact ⟨⟨_, rfl⟩, rfl⟩
  · rintro σ' H' ⟨⟨x, rfl⟩, rfl⟩
    walk_at "go"
    refine g_new fun a ha => ?_
    have h1 := @upd_same H' a (.lst [V.int 0, V.int x])
    walk_at "go"
    have fin : ∀ v : Int, atI [V.int 0, V.int x] (b2z (decide ((10 : Int) ^ Int.toNat 18 ≤ x))) = some (.int v) → _ := fun _ _ => True.intro
    have ev : ∃ v : Int, atI [V.int 0, V.int x] (b2z (decide ((10 : Int) ^ Int.toNat 18 ≤ x))) = some (.int v) := by
      by_cases c : (10 : Int) ^ Int.toNat 18 ≤ x
      · rw [decide_eq_true c]
        exact ⟨x, rfl⟩
      · rw [decide_eq_false c]
        exact ⟨0, rfl⟩
    obtain ⟨v, ev⟩ := ev
    refine g_ixL h1 ev ?_
    walk_at "go"
    refine g_new fun b hb => ?_
    have e1 : Ex H' (upd H' a (.lst [V.int 0, V.int x])) := Ex.new ha
    exact q _ _ (e1.free hb) (e1.trans (Ex.new hb)) ⟨_, _, _, upd_same⟩

theorem ok_law_take (T : Txt K mg) : FnOk P w K mg base (L2.CX P w) 1 T.a_law_take T.d_law_take ["_law_box_here", "_law_many"] spTake := by
  refine T.F_law_take.okX sc_law_take (fun vs H Q E h => ?_) (fun cdv A outer s H vs Q E hr h => ?_)
  · obtain ⟨p, m, rfl, _⟩ := h
    rfl
  obtain ⟨p, m, rfl, ⟨a, b, c, hp⟩, hm, hm2, q⟩ := h
  have hm0 : m ≠ 0 := by omega
  refine ⟨_, (pss_cons (ps_if (pt_cmpR uo_gt (pe_ix ux_seq (uv 0) pe_int (fun _ _ => rfl)) pe_int (nomark _)) (pss_cons (ps_set (i := 2) sc_law_take.nd rfl (by first | exact Or.inl rfl | exact Or.inr rfl) (pe_op uo_mod (pe_ix ux_seq (uv 0) pe_int (fun _ _ => rfl)) (uv 1)))
      (pss_cons (ps_asg (pe_op uo_fd (pe_ix ux_seq (uv 0) pe_int (fun _ _ => rfl)) (uv 1)) (pg_sub (uv 0) pe_int set_list))
      (pss_one (ps_ret (uv 2))))) pss_nil)
      (pss_cons (ps_asg (pe_op uo_add (pe_ix ux_seq (uv 0) pe_int (fun _ _ => rfl)) pe_int) (pg_sub (uv 0) pe_int set_list))
      (pss_cons (ps_set (i := 3) sc_law_take.nd rfl (by first | exact Or.inl rfl | exact Or.inr rfl) (pe_op uo_mod (pe_op uo_mul (pe_op uo_add (pe_ix ux_seq (uv 0) pe_int (fun _ _ => rfl)) (pe_op uo_mul pe_int (pe_ix ux_seq (uv 0) pe_int (fun _ _ => rfl)))) pe_int) pe_int))
      (pss_cons (ps_asg (pe_op uo_add (pe_op uo_mod (pe_op uo_add (pe_op uo_mul (uv 3) pe_int) pe_int) pe_int) pe_int) (pg_sub (uv 0) pe_int set_list))
      (pss_one (ps_ret (pe_op uo_mod (pe_op uo_fd (pe_op uo_add (pe_op uo_mul (uv 3) pe_int) (pe_ix ux_seq (uv 0) pe_int (fun _ _ => rfl))) pe_int) (uv 1)))))))), ?_⟩
  walk_at "go"
  refine i_d (fun c1 => ?_) fun c1 => ?_
  · walk_at "go"
    refine g_i ?_ ⟨hm0, hm2⟩
    walk_at "go"
    refine g_setL hp (by rfl) ?_
    walk_at "go"
    exact q _ _ (fmod_pos hm).1 (fmod_pos hm).2 (But.upd (But.refl _ _)) ⟨_, _, _, upd_same⟩
  · walk_at "go"
    refine g_setL hp (by rfl) ?_
    have h1 : upd H p (.lst ([V.int a, V.int b, V.int c].set 2 (.int (c + 1)))) p = some (.lst [.int a, .int b, .int (c + 1)]) := upd_same
    walk_at "go"
    refine g_setL h1 (by rfl) ?_
    have h2 := @upd_same (upd H p (.lst ([V.int a, V.int b, V.int c].set 2 (.int (c + 1))))) p (.lst ([V.int a, V.int b, V.int (c + 1)].set 1 (.int ((((b + 104729 * (c + 1)) * 69623).fmod 2147483647 * 48271 + 30103).fmod 2147483629 + 1))))
    walk_at "go"
    exact q _ _ (fmod_pos hm).1 (fmod_pos hm).2 ((But.refl _ _).upd.upd) ⟨_, _, _, h2⟩

theorem ok_law_alike (T : Txt K mg) : FnOk P w K mg base (L2.CX P w) 1 T.a_law_alike T.d_law_alike ["_law_found", "_law_due"] spAlike := by
  refine T.F_law_alike.okX sc_law_alike (fun vs H Q E h => ?_) (fun cdv A outer s H vs Q E hr h => ?_)
  · obtain ⟨_, _, _, rfl, _⟩ := h
    rfl
  obtain ⟨dd, v0, w0, rfl, rv, rw', hsz, q⟩ := h
  refine ⟨_, (pss_cons (ps_set (i := 2) sc_law_alike.nd rfl (by first | exact Or.inl rfl | exact Or.inr rfl) (pe_lst (pa_cons (pe_tup (pa_cons (uv 0) (pa_cons (uv 1) pa_nil))) pa_nil)))
      (pss_cons (ps_while (passes_of rfl) (pt_cmpR uo_gt (pe_callB uk_len rfl T.z_len boot_len (pa_cons (uv 2) pa_nil)) pe_int (nomark _)) (pss_cons (ps_asg (pe_bm0 PySem.F.plainAttrs_list PySem.F.slot_list_pop PySem.F.type_list_pop mt_pop (uv 2)) (pg_tup rfl (pgs_cons (pg_name (i := 3) sc_law_alike.nd rfl (by first | exact Or.inl rfl | exact Or.inr rfl)) (pgs_cons (pg_name (i := 4) sc_law_alike.nd rfl (by first | exact Or.inl rfl | exact Or.inr rfl)) pgs_nil))))
      (pss_one (ps_if (ut (pe_callB uk_isT rfl T.z_isinstance boot_isinstance (pa_cons (uv 4) (pa_cons (pe_tup (pa_cons (pe_bltn (v := .ty "tuple") rfl T.z_tuple boot_tuple rfl) (pa_cons (pe_bltn (v := .ty "list") rfl T.z_list boot_list rfl) pa_nil))) pa_nil)))) (pss_cons (ps_if (PW.pt (pw_or (pt_cmpR op_ne (pe_callB uk_is rfl T.z_isinstance boot_isinstance (pa_cons (uv 3) (pa_cons (pe_bltn (v := .ty "tuple") rfl T.z_tuple boot_tuple rfl) pa_nil))) (pe_callB uk_is rfl T.z_isinstance boot_isinstance (pa_cons (uv 4) (pa_cons (pe_bltn (v := .ty "tuple") rfl T.z_tuple boot_tuple rfl) pa_nil))) (nomark _)) (pw_or1 (pt_cmpR op_ne (pe_callB uk_is rfl T.z_isinstance boot_isinstance (pa_cons (uv 3) (pa_cons (pe_bltn (v := .ty "list") rfl T.z_list boot_list rfl) pa_nil))) (pe_callB uk_is rfl T.z_isinstance boot_isinstance (pa_cons (uv 4) (pa_cons (pe_bltn (v := .ty "list") rfl T.z_list boot_list rfl) pa_nil))) (nomark _))))) (pss_one (ps_ret pe_bl)) pss_nil)
      (pss_cons (ps_if (pt_cmpR op_ne (pe_callB uk_len rfl T.z_len boot_len (pa_cons (uv 3) pa_nil)) (pe_callB uk_len rfl T.z_len boot_len (pa_cons (uv 4) pa_nil)) (nomark _)) (pss_one (ps_ret pe_bl)) pss_nil)
      (pss_one (ps_expr (pe_bm PySem.F.plainAttrs_list PySem.F.slot_list_extend PySem.F.type_list_extend mt_extend (uv 2) (pa_cons (pe_listZip rfl rfl T.z_list rfl T.z_zip (pa_cons (uv 3) (pa_cons (uv 4) pa_nil))) pa_nil)))))) (pss_one (ps_if (PW.pt (pw_or (ut (pe_callB uk_isT rfl T.z_isinstance boot_isinstance (pa_cons (uv 3) (pa_cons (pe_tup (pa_cons (pe_bltn (v := .ty "tuple") rfl T.z_tuple boot_tuple rfl) (pa_cons (pe_bltn (v := .ty "list") rfl T.z_list boot_list rfl) pa_nil))) pa_nil)))) (pw_or1 (pt_cmpR op_ne (pe_callB uk_is rfl T.z_isinstance boot_isinstance (pa_cons (uv 3) (pa_cons (pe_bltn (v := .ty "bool") rfl T.z_bool boot_bool rfl) pa_nil))) (pe_callB uk_is rfl T.z_isinstance boot_isinstance (pa_cons (uv 4) (pa_cons (pe_bltn (v := .ty "bool") rfl T.z_bool boot_bool rfl) pa_nil))) (nomark _))))) (pss_one (ps_ret pe_bl)) (pss_one (ps_if (PW.pt (pw_or (pt_cmpR op_ne (pe_callB uk_is rfl T.z_isinstance boot_isinstance (pa_cons (uv 3) (pa_cons (pe_bltn (v := .ty "int") rfl T.z_int boot_int rfl) pa_nil))) (pe_callB uk_is rfl T.z_isinstance boot_isinstance (pa_cons (uv 4) (pa_cons (pe_bltn (v := .ty "int") rfl T.z_int boot_int rfl) pa_nil))) (nomark _)) (pw_or1 (pt_cmpR op_ne (uv 3) (uv 4) (nomark _))))) (pss_one (ps_ret pe_bl)) pss_nil))))))))
      (pss_one (ps_ret pe_bl)))), ?_⟩
  walk_at "go"
  refine g_new fun a ha => ?_
  walk_at "go"
  refine g_new fun l hl => ?_
  walk_at "go"
  have e0 : Ex H (upd H a (.tup [v0, w0])) := Ex.new ha
  have hl0 : H l = none := e0.free hl
  refine g_while (fun m σ H1 => ∃ o1 o2, σ = [some v0, some w0, some (.ref l), o1, o2] ∧ m ≤ 400000 ∧ Ex H H1 ∧ ∃ ts, H1 l = some (.lst ts) ∧ PrS H H1 m ts) _ ⟨none, none, rfl, by rw [← Nat.zero_add dd.size] at hsz; exact hsz, e0.trans (Ex.new hl), _, upd_same, PrS.snoc .nil ⟨a, v0, w0, rfl, Ex.new hl _ _ upd_same, rv, rw'⟩⟩ ?_
  rintro m σ H1 ⟨o1, o2, rfl, hm, e, ts, hts, hp⟩
  walk_at "go"
  refine i_d (fun c => g_wn ?_) fun c => ?_
  · cases hp with
    | nil => cases c
    | @snoc n ts d t hp r =>
      obtain ⟨a, x, y, rfl, ha, rx, ry⟩ := r
      walk_at "go"
      refine g_pop hts ?_
      have b2 : But l H1 (upd H1 l (.lst ts)) := (But.refl _ _).upd
      have h2 := b2.get hts ha (fun z => nomatch z)
      have e2 : Ex H (upd H1 l (.lst ts)) := e.at_new hl0
      have t2 : Tk H1 (upd H1 l (.lst ts)) := b2.tkl hts
      have l2 : upd H1 l (.lst ts) l = some (.lst ts) := upd_same
      refine g_tup2 h2 ?_
      walk_at "go"
      have szp := d.size_pos
      revert l2 e2 t2
      clear h2 b2
      generalize upd H1 l (.lst ts) = H2
      intro e2 t2 l2
      refine g_new fun p hp2 => ?_
      have e3 := e2.trans (Ex.new (o := .tup [.ty "tuple", .ty "list"]) hp2)
      have l3 := Ex.new (o := .tup [.ty "tuple", .ty "list"]) hp2 _ _ l2
      have t3 := t2.trans (Ex.new (o := .tup [.ty "tuple", .ty "list"]) hp2).tk
      walk_at "go"
      refine g_isTD (ry.ex e3) upd_same ?_
      revert e3 l3 t3
      generalize upd H2 p (.tup [.ty "tuple", .ty "list"]) = H3
      intro e3 l3 t3
      walk_at "go"
      refine i_b (fun k => ?_) fun k => ?_
      · obtain ⟨a1, b1, ds, xs, ys, rfl, rfl, rxs, rys, es, hb⟩ := D.open k rx ry
        have hb3 := both_ex e3 hb
        walk_at "go"
        refine g_isD (rx.ex e3) (kit_tup d) ?_
        walk_at "go"
        refine g_isD (ry.ex e3) (kit_tup d) ?_
        walk_at "go"
        refine g_isD (rx.ex e3) (kit_lst d) ?_
        walk_at "go"
        refine g_isD (ry.ex e3) (kit_lst d) ?_
        walk_at "go"
        refine g_len2a hb3 ?_
        walk_at "go"
        refine g_len2b hb3 ?_
        walk_at "go"
        refine i_neI (fun c => absurd (congrArg Int.ofNat (rxs.len2 rys)) c) fun _ => ?_
        walk_at "go"
        refine ⟨a1, b1, xs, ys, rfl, rxs.len2 rys, both_sq hb3, fun H4 z t4 e4 hz _ _ hz4 pz => ?_⟩
        have l4 := e4 _ _ l3
        have ln := sizes_len ds
        have ln2 := rxs.len
        have lp := hp.len
        walk_at "go"
        refine g_ext l4 hz4 (by rw [prz_len pz]; omega) ?_
        have b5 : But l H4 (upd H4 l (.lst (ts ++ t4.map V.ref))) := (But.refl _ _).upd
        have z := (PrS.ext rxs rys pz (hp.tk (t3.trans e4.tk))).tk (b5.tkl l4)
        walk_at "go"
        exact ⟨_, by omega, _, _, rfl, by omega, (e3.trans e4).at_new hl0, _, upd_same, z⟩
      · walk_at "go"
        refine g_new fun p hp2 => ?_
        have e4 := e3.trans (Ex.new (o := .tup [.ty "tuple", .ty "list"]) hp2)
        have l4 := Ex.new (o := .tup [.ty "tuple", .ty "list"]) hp2 _ _ l3
        have t4 := t3.trans (Ex.new (o := .tup [.ty "tuple", .ty "list"]) hp2).tk
        walk_at "go"
        refine g_isTD (rx.ex e4) upd_same ?_
        revert e4 l4 t4
        generalize upd H3 p (.tup [.ty "tuple", .ty "list"]) = H4
        intro e4 l4 t4
        walk_at "go"
        refine i_F k ?_
        walk_at "go"
        refine g_isD (rx.ex e4) (kit_bl d) ?_
        walk_at "go"
        refine g_isD (ry.ex e4) (kit_bl d) ?_
        walk_at "go"
        refine g_isD (rx.ex e4) (kit_int d) ?_
        walk_at "go"
        refine g_isD (ry.ex e4) (kit_int d) ?_
        walk_at "go"
        refine g_neD rx ry k ?_
        walk_at "go"
        exact ⟨_, by omega, _, _, rfl, by omega, e4, _, l4, hp.tk t4⟩
  · walk_at "go"
    exact q _ e

theorem ok_law_shared (T : Txt K mg) : FnOk P w K mg base (L2.CX P w) 1 T.a_law_shared T.d_law_shared ["_law_one", "_law_other"] spGcd := by
  refine T.F_law_shared.okX sc_law_shared (fun vs H Q E h => ?_) (fun cdv A outer s H vs Q E hr h => ?_)
  · obtain ⟨a, b, rfl, _⟩ := h
    rfl
  obtain ⟨a, b, rfl, q⟩ := h
  refine ⟨_, (pss_cons (ps_while (passes_of rfl) (pt_cmpR op_ne (uv 1) pe_int (nomark _)) (pss_one (ps_par (i := 0) (j := 1) rfl sc_law_shared.nd rfl rfl (by decide) rfl rfl (pa_cons (uv 1) (pa_cons (pe_op uo_mod (uv 0) (uv 1)) pa_nil)) rfl)))
      (pss_one (ps_ret (pe_callB uk_abs rfl T.z_abs boot_abs (pa_cons (uv 0) pa_nil))))), ?_⟩
  refine g_seq (g_while (fun m σ H1 => ∃ x y : Int, σ = [some (.int x), some (.int y)] ∧ H1 = H ∧ Int.gcd x y = Int.gcd a b ∧ m = y.natAbs) _ ⟨a, b, rfl, rfl, rfl, rfl⟩ ?_)
  rintro m σ H1 ⟨x, y, rfl, rfl, hg, rfl⟩
  walk_at "go"
  refine i_neI (fun c => g_wn ?_) fun c => ?_
  · walk_at "go"
    exact ⟨_, fmod_less c, y, x.fmod y, rfl, rfl, (gcd_fmod x y).trans hg, rfl⟩
  · walk_at "go"
    subst c
    rw [Int.gcd_zero_right] at hg
    rw [hg]
    exact q

theorem ok_law_lowest (T : Txt K mg) : FnOk P w K mg base (L2.CX P w) 2 T.a_law_lowest T.d_law_lowest ["_law_upper", "_law_lower"] spLow := by
  refine T.F_law_lowest.okX sc_law_lowest (fun vs H Q E h => ?_) (fun cdv A outer s H vs Q E hr h => ?_)
  · obtain ⟨_, _, rfl, _⟩ := h
    rfl
  obtain ⟨u, l, rfl, bu, bl, hl, q⟩ := h
  refine ⟨_, (pss_cons (ps_set (i := 2) sc_law_lowest.nd rfl (by first | exact Or.inl rfl | exact Or.inr rfl) (pe_callB (uk_max2 rfl) rfl T.z_max boot_max (pa_cons pe_int (pa_cons (pe_callD (ok_law_shared T) (hr.mono (by decide)) rfl T.m_law_shared T.F_law_shared.kp T.b_law_shared .nil (fun σ => passAt (takes_of rfl rfl rfl rfl) σ) (pa_cons (uv 0) (pa_cons (uv 1) pa_nil))) pa_nil))))
      (pss_one (ps_ret (pe_tup (pa_cons (pe_op uo_fd (uv 0) (uv 2)) (pa_cons (pe_op uo_fd (uv 1) (uv 2)) pa_nil)))))), ?_⟩
  walk_at "go"
  refine ⟨_, _, rfl, ?_⟩
  walk_at "go"
  have e0 : l ≠ 0 := by omega
  rw [max_fpt hl]
  have cu : CFd u (fpt u l) := (fpt_bits e0 bl).fd (fpt_ne e0)
  have cl : CFd l (fpt u l) := (fpt_bits e0 bl).fd (fpt_ne e0)
  refine g_i ?_ cu
  walk_at "go"
  exact g_new q

theorem ok_law_whole (T : Txt K mg) : FnOk P w K mg base (L2.CX P w) 2 T.a_law_whole T.d_law_whole ["_law_box_here"] spWhole := by
  refine T.F_law_whole.okX sc_law_whole (fun vs H Q E h => ?_) (fun cdv A outer s H vs Q E hr h => ?_)
  · obtain ⟨_, rfl, _⟩ := h
    rfl
  obtain ⟨p, rfl, hb, q⟩ := h
  refine ⟨_, (pss_cons (ps_set (i := 1) sc_law_whole.nd rfl (by first | exact Or.inl rfl | exact Or.inr rfl) (pe_ix ux_seq (pe_lst (pa_cons pe_int (pa_cons pe_int (pa_cons (pe_op uo_pow pe_int pe_int) (pa_cons (pe_op uo_pow pe_int pe_int) pa_nil))))) (pe_callD (ok_law_take T) (hr.mono (by decide)) rfl T.m_law_take T.F_law_take.kp T.b_law_take .nil (fun σ => passAt (takes_of rfl rfl rfl rfl) σ) (pa_cons (uv 0) (pa_cons pe_int pa_nil))) (fun _ _ => rfl)))
      (pss_one (ps_ret (pe_op uo_mul (pe_callD (ok_law_take T) (hr.mono (by decide)) rfl T.m_law_take T.F_law_take.kp T.b_law_take .nil (fun σ => passAt (takes_of rfl rfl rfl rfl) σ) (pa_cons (uv 0) (pa_cons (uv 1) pa_nil))) (pe_op uo_sub pe_int (pe_op uo_mul pe_int (pe_callD (ok_law_take T) (hr.mono (by decide)) rfl T.m_law_take T.F_law_take.kp T.b_law_take .nil (fun σ => passAt (takes_of rfl rfl rfl rfl) σ) (pa_cons (uv 0) (pa_cons pe_int pa_nil))))))))), ?_⟩
  walk_at "go"
  refine g_new fun l hl => ?_
  walk_at "go"
  have e1 := Ex.new (o := .lst [.int 5, .int 100, .int ((10 : Int) ^ Int.toNat 9), .int ((10 : Int) ^ Int.toNat 30)]) hl
  have l1 : upd H l (.lst [.int 5, .int 100, .int ((10 : Int) ^ Int.toNat 9), .int ((10 : Int) ^ Int.toNat 30)]) l = some (.lst [.int 5, .int 100, .int ((10 : Int) ^ Int.toNat 9), .int ((10 : Int) ^ Int.toNat 30)]) := upd_same
  have hb1 := hb.ex e1
  revert e1 l1 hb1
  generalize upd H l (.lst [.int 5, .int 100, .int ((10 : Int) ^ Int.toNat 9), .int ((10 : Int) ^ Int.toNat 30)]) = H1
  intro e1 l1 hb1
  refine ⟨p, 4, rfl, hb1, by decide, by decide, fun d H2 d0 d1 b2 hb2 => ?_⟩
  have lp : l ≠ p := fun z => by
    obtain ⟨_, _, _, hp⟩ := hb
    rw [z] at hl
    rw [hl] at hp
    cases hp
  have l2 := b2 _ _ lp l1
  have ev : ∃ m : Int, atI [V.int 5, .int 100, .int ((10 : Int) ^ Int.toNat 9), .int ((10 : Int) ^ Int.toNat 30)] d = some (.int m) ∧ 0 < m ∧ Bits 101 m := by
    have z : d = 0 ∨ d = 1 ∨ d = 2 ∨ d = 3 := by omega
    rcases z with rfl | rfl | rfl | rfl
    · exact ⟨_, rfl, by decide, by decide⟩
    · exact ⟨_, rfl, by decide, by decide⟩
    · exact ⟨_, rfl, by decide, by decide⟩
    · exact ⟨_, rfl, by decide, by decide⟩
  obtain ⟨m, em, m0, mb⟩ := ev
  walk_at "go"
  refine g_ixL l2 em ?_
  walk_at "go"
  refine ⟨p, m, rfl, hb2, m0, Nat.lt_of_lt_of_le (Bits.log mb) (by decide), fun i H3 i0 i1 b3 hb3 => ?_⟩
  walk_at "go"
  refine ⟨p, 2, rfl, hb3, by decide, by decide, fun j H4 j0 j1 b4 hb4 => ?_⟩
  have ib : Bits 101 i := mb.of_le (by omega)
  have jb : Bits 2 j := by unfold Bits; omega
  have j2 : Bits 5 (1 - 2 * j) := by unfold Bits; omega
  have m2 : CMm 2 j := (show Bits 2 2 from by decide).cm jb
  have m3 : CMm i (1 - 2 * j) := ib.cm j2
  walk_at "go"
  have bb : But p H H4 := ((e1.but p).trans b2).trans (b3.trans b4)
  exact q _ _ (ib.mul j2).le bb hb4

theorem ok_law_made_of (T : Txt K mg) : FnOk P w K mg base (L2.CX P w) 3 T.a_law_made_of T.d_law_made_of ["_law_upper", "_law_lower"] spMade := by
  refine T.F_law_made_of.okX sc_law_made_of (fun vs H Q E h => ?_) (fun cdv A outer s H vs Q E hr h => ?_)
  · obtain ⟨_, _, rfl, _⟩ := h
    rfl
  obtain ⟨u, l, rfl, bu, bl, q0, q⟩ := h
  refine ⟨_, (pss_cons (ps_if (pt_cmpR op_eq (uv 1) pe_int (nomark _)) (pss_one (ps_ret pe_non)) pss_nil)
      (pss_one (ps_ret (pe_callD (ok_law_lowest T) (hr.mono (by decide)) rfl T.m_law_lowest T.F_law_lowest.kp T.b_law_lowest .nil (fun σ => passAt (takes_of rfl rfl rfl rfl) σ) (pa_cons (pe_op uo_mul (uv 0) (pe_op uo_sub pe_int (pe_op uo_mul pe_int (pe_callTy uk_int rfl T.z_int boot_int (pa_cons (pe_cmpR uo_lt (uv 1) pe_int (nomark _)) pa_nil))))) (pa_cons (pe_callB uk_abs rfl T.z_abs boot_abs (pa_cons (uv 1) pa_nil)) pa_nil)))))), ?_⟩
  have b2 : Bits 3 (2 * b2z (decide (l < 0))) := (show Bits 2 2 from by decide).mul (b2z_bits _)
  have b3 : Bits 4 (1 - 2 * b2z (decide (l < 0))) := (show Bits 3 1 from by decide).sub b2
  have m1 : CMm 2 (b2z (decide (l < 0))) := (show Bits 2 2 from by decide).cm (b2z_bits _)
  have b4 := bu.mul b3
  have m2 : CMm u (1 - 2 * b2z (decide (l < 0))) := bu.cm b3
  walk_at "go"
  refine i_eqI (fun c => ?_) fun c => ?_
  · walk_at "go"
    exact q0 c
  · walk_at "go"
    refine ⟨_, _, rfl, b4.le, bl.abs.le, by omega, ?_⟩
    rw [fru_sgn c, frl_sgn c]
    exact q c

def Oq (H : Hp) (k : Int) (x y : V) (u l : Int) : Prop := (k = 0 ∧ x = .int u ∧ y = .int l ∧ Bits 2000 u ∧ Bits 2000 l) ∨
  (k ≠ 0 ∧ ∃ (p r : Addr) (a b c d : Int), x = .ref p ∧ y = .ref r ∧ H p = some (.tup [.int a, .int b]) ∧ H r = some (.tup [.int c, .int d]) ∧ Bits 500 a ∧ Bits 500 b ∧ Bits 500 c ∧ Bits 500 d ∧ u = a * d ∧ l = b * c)
def dFr (u l : Int) : D := .tup [.str "told", .tup [.int (fru u l), .int (frl u l)]]
def dNo : D := .tup [.str "nought", .bl true, .bl false]
def spHeard : Sp := fun vs H Q _ => ∃ (k : Int) (x y : V) (u l : Int), vs = [.int k, x, y] ∧ Oq H k x y u l ∧ ∀ v H', Ex H H' → Rep H' (if l = 0 then dNo else dFr u l) v → Q v H'
theorem ok_law_heard (T : Txt K mg) : FnOk P w K mg base (L2.CX P w) 5 T.a_law_heard T.d_law_heard ["_law_which", "_law_one", "_law_other"] spHeard := by
  refine T.F_law_heard.okX sc_law_heard (fun vs H Q E h => ?_) (fun cdv A outer s H vs Q E hr h => ?_)
  · obtain ⟨_, _, _, _, _, rfl, _⟩ := h
    rfl
  obtain ⟨k, x, y, u, l, rfl, ho, q⟩ := h
  refine ⟨_, (pss_cons (ps_set (i := 3) sc_law_heard.nd rfl (by first | exact Or.inl rfl | exact Or.inr rfl) pe_non)
      (pss_cons (ps_try_as (i := 4) rfl rfl sc_law_heard.nd rfl rfl ⟨rfl, by decide, .inl T.m_Nought⟩ (takes_of rfl rfl rfl rfl) (fun W pn xe tk po => (pss_one (ps_if (pt_cmpR op_eq (uv 0) pe_int (nomark _)) (pss_one (ps_set (i := 3) sc_law_heard.nd rfl (by first | exact Or.inl rfl | exact Or.inr rfl) (pe_tup (pa_cons pe_str (pa_cons (pe_callD (ok_fraction_of T) (hr.mono (by decide)) rfl T.m_fraction_of T.F_fraction_of.kp T.b_fraction_of .nil (fun σ => passAt tk σ) (pa_cons (uv 1) (pa_cons (uv 2) pa_nil))) pa_nil))))) (pss_one (ps_set (i := 3) sc_law_heard.nd rfl (by first | exact Or.inl rfl | exact Or.inr rfl) (pe_tup (pa_cons pe_str (pa_cons (pe_callD (ok_divided T) (hr.mono (by decide)) rfl T.m_divided T.F_divided.kp T.b_divided .nil (fun σ => passAt tk σ) (pa_cons (uv 1) (pa_cons (uv 2) pa_nil))) pa_nil)))))))) (fun a oe cls d pn hz hf => (pss_one (ps_set (i := 3) sc_law_heard.nd rfl (by first | exact Or.inl rfl | exact Or.inr rfl) (pe_tup (pa_cons pe_str (pa_cons (pe_callB (uk_isE T.c_Nought hz hf) rfl T.z_isinstance boot_isinstance (pa_cons (uv 4) (pa_cons (pe_bltn (v := .ty "ZeroDivisionError") rfl T.z_ZeroDivisionError (by decide +kernel) rfl) pa_nil))) (pa_cons (pe_callB (uk_isE T.c_Nought hz hf) rfl T.z_isinstance boot_isinstance (pa_cons (uv 4) (pa_cons (pe_glob (v := .ref T.a_BoughError) rfl T.m_BoughError rfl) pa_nil))) pa_nil))))))))
      (pss_one (ps_ret (uv 3))))), ?_⟩
  walk_at "go"
  refine i_eqI (fun c => ?_) fun c => ?_
  · rcases ho with ⟨_, rfl, rfl, bu, bl⟩ | ⟨c', _⟩
    · walk_at "go"
      refine ⟨u, l, rfl, bu, bl, fun z => ?_, fun z p hp => ?_⟩
      · refine ⟨true, T.e_Nought, fun _ a ha => ?_, fun q => nomatch q⟩
        walk_at "go"
        refine g_isET (kit_sub T.sNZ) ?_
        walk_at "go"
        refine g_isEC (kit_own T.sNB T.s0_Nought T.i0_BoughError T.t0_BoughError) ?_
        walk_at "go"
        refine g_new fun p hp => ?_
        walk_at "go"
        exact q _ _ (Ex.new hp) (by rw [if_pos z]; exact Rep.three upd_same (Rep.s _) (Rep.b _) (Rep.b _))
      · walk_at "go"
        refine g_new fun p2 hp2 => ?_
        walk_at "go"
        exact q _ _ ((Ex.new hp).trans (Ex.new hp2)) (by rw [if_neg z]; exact Rep.two upd_same (Rep.s _) (Rep.two (Ex.new hp2 _ _ upd_same) (Rep.i _) (Rep.i _)))
    · exact absurd c c'
  · rcases ho with ⟨c', _⟩ | ⟨_, p, r, a, b, e, d, rfl, rfl, hp, hr', ba, bb, bc, bd, rfl, rfl⟩
    · exact absurd c' c
    · walk_at "go"
      refine ⟨p, r, a, b, e, d, rfl, hp, hr', ba, bb, bc, bd, fun z => ?_, fun z p hp => ?_⟩
      · refine ⟨true, T.e_Nought, fun _ a ha => ?_, fun q => nomatch q⟩
        walk_at "go"
        refine g_isET (kit_sub T.sNZ) ?_
        walk_at "go"
        refine g_isEC (kit_own T.sNB T.s0_Nought T.i0_BoughError T.t0_BoughError) ?_
        walk_at "go"
        refine g_new fun p hp => ?_
        walk_at "go"
        exact q _ _ (Ex.new hp) (by rw [if_pos z]; exact Rep.three upd_same (Rep.s _) (Rep.b _) (Rep.b _))
      · walk_at "go"
        refine g_new fun p2 hp2 => ?_
        walk_at "go"
        exact q _ _ ((Ex.new hp).trans (Ex.new hp2)) (by rw [if_neg z]; exact Rep.two upd_same (Rep.s _) (Rep.two (Ex.new hp2 _ _ upd_same) (Rep.i _) (Rep.i _)))

def spRight : Sp := fun vs H Q _ => ∃ (k : Int) (x y due : V) (u l : Int), vs = [.int k, x, y, due] ∧ Oq H k x y u l ∧ ((l = 0 ∧ due = .non) ∨ (l ≠ 0 ∧ ∃ p, due = .ref p ∧ H p = some (.tup [.int (fru u l), .int (frl u l)]))) ∧ ∀ H', Ex H H' → Q (.bl true) H'
theorem ok_law_right (T : Txt K mg) : FnOk P w K mg base (L2.CX P w) 6 T.a_law_right T.d_law_right ["_law_which", "_law_one", "_law_other", "_law_due"] spRight := by
  refine T.F_law_right.okX sc_law_right (fun vs H Q E h => ?_) (fun cdv A outer s H vs Q E hr h => ?_)
  · obtain ⟨_, _, _, _, _, _, rfl, _⟩ := h
    rfl
  obtain ⟨k, x, y, due, u, l, rfl, ho, hd, q⟩ := h
  refine ⟨_, (pss_cons (ps_if (pt_cmpR uo_isN (uv 3) pe_non (nomark _)) (pss_one (ps_ret (pe_callD (ok_law_alike T) (hr.mono (by decide)) rfl T.m_law_alike T.F_law_alike.kp T.b_law_alike .nil (fun σ => passAt (takes_of rfl rfl rfl rfl) σ) (pa_cons (pe_callD (ok_law_heard T) (hr.mono (by decide)) rfl T.m_law_heard T.F_law_heard.kp T.b_law_heard .nil (fun σ => passAt (takes_of rfl rfl rfl rfl) σ) (pa_cons (uv 0) (pa_cons (uv 1) (pa_cons (uv 2) pa_nil)))) (pa_cons (pe_tup (pa_cons pe_str (pa_cons pe_bl (pa_cons pe_bl pa_nil)))) pa_nil))))) pss_nil)
      (pss_one (ps_ret (pe_callD (ok_law_alike T) (hr.mono (by decide)) rfl T.m_law_alike T.F_law_alike.kp T.b_law_alike .nil (fun σ => passAt (takes_of rfl rfl rfl rfl) σ) (pa_cons (pe_callD (ok_law_heard T) (hr.mono (by decide)) rfl T.m_law_heard T.F_law_heard.kp T.b_law_heard .nil (fun σ => passAt (takes_of rfl rfl rfl rfl) σ) (pa_cons (uv 0) (pa_cons (uv 1) (pa_cons (uv 2) pa_nil)))) (pa_cons (pe_tup (pa_cons pe_str (pa_cons (uv 3) pa_nil))) pa_nil)))))), ?_⟩
  rcases hd with ⟨z, rfl⟩ | ⟨z, p, rfl, hp⟩
  · walk_at "go"
    refine ⟨k, x, y, u, l, rfl, ho, fun v H1 e1 r1 => ?_⟩
    rw [if_pos z] at r1
    walk_at "go"
    refine g_new fun p hp => ?_
    walk_at "go"
    exact ⟨_, _, _, rfl, r1.ex (Ex.new hp), Rep.three upd_same (Rep.s _) (Rep.b _) (Rep.b _), by decide, fun H2 e2 => q _ ((e1.trans (Ex.new hp)).trans e2)⟩
  · walk_at "go"
    refine ⟨k, x, y, u, l, rfl, ho, fun v H1 e1 r1 => ?_⟩
    rw [if_neg z] at r1
    walk_at "go"
    refine g_new fun p2 hp2 => ?_
    walk_at "go"
    refine ⟨_, _, _, rfl, r1.ex (Ex.new hp2), Rep.two upd_same (Rep.s _) (Rep.two (Ex.new hp2 _ _ (e1 _ _ hp)) (Rep.i _) (Rep.i _)), ?_, fun H2 e2 => q _ ((e1.trans (Ex.new hp2)).trans e2)⟩
    simp only [dFr, D.size, D.sizes]
    decide

theorem ok_law_both (T : Txt K mg) : FnOk P w K mg base (L2.CX P w) 7 T.a_law_both T.d_law_both ["_law_one", "_law_other"] spBoth := by
  refine T.F_law_both.okX sc_law_both (fun vs H Q E h => ?_) (fun cdv A outer s H vs Q E hr h => ?_)
  · obtain ⟨_, _, _, _, _, _, rfl, _⟩ := h
    rfl
  obtain ⟨p, r, a, b, c, d, rfl, ⟨hp, ba, bb, b0⟩, ⟨hr', bc, bd, d0⟩, q⟩ := h
  refine ⟨_, (pss_cons (ps_asg (uv 0) (pg_tup rfl (pgs_cons (pg_name (i := 2) sc_law_both.nd rfl (by first | exact Or.inl rfl | exact Or.inr rfl)) (pgs_cons (pg_name (i := 3) sc_law_both.nd rfl (by first | exact Or.inl rfl | exact Or.inr rfl)) pgs_nil))))
      (pss_cons (ps_asg (uv 1) (pg_tup rfl (pgs_cons (pg_name (i := 4) sc_law_both.nd rfl (by first | exact Or.inl rfl | exact Or.inr rfl)) (pgs_cons (pg_name (i := 5) sc_law_both.nd rfl (by first | exact Or.inl rfl | exact Or.inr rfl)) pgs_nil))))
      (pss_cons (ps_if (pt_not (ut (pe_callD (ok_law_alike T) (hr.mono (by decide)) rfl T.m_law_alike T.F_law_alike.kp T.b_law_alike .nil (fun σ => passAt (takes_of rfl rfl rfl rfl) σ) (pa_cons (pe_callD (ok_added T) (hr.mono (by decide)) rfl T.m_added T.F_added.kp T.b_added .nil (fun σ => passAt (takes_of rfl rfl rfl rfl) σ) (pa_cons (uv 0) (pa_cons (uv 1) pa_nil))) (pa_cons (pe_callD (ok_law_lowest T) (hr.mono (by decide)) rfl T.m_law_lowest T.F_law_lowest.kp T.b_law_lowest .nil (fun σ => passAt (takes_of rfl rfl rfl rfl) σ) (pa_cons (pe_op uo_add (pe_op uo_mul (uv 2) (uv 5)) (pe_op uo_mul (uv 4) (uv 3))) (pa_cons (pe_op uo_mul (uv 3) (uv 5)) pa_nil))) pa_nil))))) (pss_one (ps_ret pe_bl)) pss_nil)
      (pss_cons (ps_if (pt_not (ut (pe_callD (ok_law_alike T) (hr.mono (by decide)) rfl T.m_law_alike T.F_law_alike.kp T.b_law_alike .nil (fun σ => passAt (takes_of rfl rfl rfl rfl) σ) (pa_cons (pe_callD (ok_taken_away T) (hr.mono (by decide)) rfl T.m_taken_away T.F_taken_away.kp T.b_taken_away .nil (fun σ => passAt (takes_of rfl rfl rfl rfl) σ) (pa_cons (uv 0) (pa_cons (uv 1) pa_nil))) (pa_cons (pe_callD (ok_law_lowest T) (hr.mono (by decide)) rfl T.m_law_lowest T.F_law_lowest.kp T.b_law_lowest .nil (fun σ => passAt (takes_of rfl rfl rfl rfl) σ) (pa_cons (pe_op uo_sub (pe_op uo_mul (uv 2) (uv 5)) (pe_op uo_mul (uv 4) (uv 3))) (pa_cons (pe_op uo_mul (uv 3) (uv 5)) pa_nil))) pa_nil))))) (pss_one (ps_ret pe_bl)) pss_nil)
      (pss_cons (ps_if (pt_not (ut (pe_callD (ok_law_alike T) (hr.mono (by decide)) rfl T.m_law_alike T.F_law_alike.kp T.b_law_alike .nil (fun σ => passAt (takes_of rfl rfl rfl rfl) σ) (pa_cons (pe_callD (ok_multiplied T) (hr.mono (by decide)) rfl T.m_multiplied T.F_multiplied.kp T.b_multiplied .nil (fun σ => passAt (takes_of rfl rfl rfl rfl) σ) (pa_cons (uv 0) (pa_cons (uv 1) pa_nil))) (pa_cons (pe_callD (ok_law_lowest T) (hr.mono (by decide)) rfl T.m_law_lowest T.F_law_lowest.kp T.b_law_lowest .nil (fun σ => passAt (takes_of rfl rfl rfl rfl) σ) (pa_cons (pe_op uo_mul (uv 2) (uv 4)) (pa_cons (pe_op uo_mul (uv 3) (uv 5)) pa_nil))) pa_nil))))) (pss_one (ps_ret pe_bl)) pss_nil)
      (pss_cons (ps_if (pt_not (ut (pe_callD (ok_law_alike T) (hr.mono (by decide)) rfl T.m_law_alike T.F_law_alike.kp T.b_law_alike .nil (fun σ => passAt (takes_of rfl rfl rfl rfl) σ) (pa_cons (pe_callD (ok_is_less T) (hr.mono (by decide)) rfl T.m_is_less T.F_is_less.kp T.b_is_less .nil (fun σ => passAt (takes_of rfl rfl rfl rfl) σ) (pa_cons (uv 0) (pa_cons (uv 1) pa_nil))) (pa_cons (pe_cmpR uo_lt (pe_op uo_mul (uv 2) (uv 5)) (pe_op uo_mul (uv 4) (uv 3)) (nomark _)) pa_nil))))) (pss_one (ps_ret pe_bl)) pss_nil)
      (pss_one (ps_ret (pe_callD (ok_law_right T) (hr.mono (by decide)) rfl T.m_law_right T.F_law_right.kp T.b_law_right .nil (fun σ => passAt (takes_of rfl rfl rfl rfl) σ) (pa_cons pe_int (pa_cons (uv 0) (pa_cons (uv 1) (pa_cons (pe_callD (ok_law_made_of T) (hr.mono (by decide)) rfl T.m_law_made_of T.F_law_made_of.kp T.b_law_made_of .nil (fun σ => passAt (takes_of rfl rfl rfl rfl) σ) (pa_cons (pe_op uo_mul (uv 2) (uv 5)) (pa_cons (pe_op uo_mul (uv 3) (uv 4)) pa_nil))) pa_nil))))))))))))), ?_⟩
  have m1 : CMm a d := ba.cm bd
  have m2 : CMm b d := bb.cm bd
  have m3 : CMm c b := bc.cm bb
  have m4 : CMm a c := ba.cm bc
  have m5 : CMm b c := bb.cm bc
  have n1 := ba.mul bd
  have n2 := bb.mul bd
  have n3 := bc.mul bb
  have n4 := ba.mul bc
  have n5 := bb.mul bc
  have p2 : 0 < b * d := Int.mul_pos b0 d0
  have z2 : b * d ≠ 0 := Int.ne_of_gt p2
  walk_at "go"
  refine g_tup2 hp ?_
  walk_at "go"
  refine g_tup2 hr' ?_
  walk_at "go"
  refine ⟨p, r, a, b, c, d, rfl, hp, hr', ba.le, bb.le, bc.le, bd.le, fun z => absurd z z2, fun _ t ht => ?_⟩
  have E1 := Ex.new (o := .tup [.int (fru (a * d + c * b) (b * d)), .int (frl (a * d + c * b) (b * d))]) ht
  have T1 := @upd_same H t (.tup [.int (fru (a * d + c * b) (b * d)), .int (frl (a * d + c * b) (b * d))])
  revert E1 T1
  generalize upd H t (.tup [.int (fru (a * d + c * b) (b * d)), .int (frl (a * d + c * b) (b * d))]) = H1
  intro E1 T1
  walk_at "go"
  refine ⟨_, _, rfl, (n1.add n3).le, n2.le, p2, fun t2 ht2 => ?_⟩
  walk_at "go"
  refine ⟨_, _, _, rfl, Rep.two (Ex.new ht2 _ _ T1) (Rep.i _) (Rep.i _), Rep.two upd_same (Rep.i _) (Rep.i _), size2 _ _, fun H2 e2 => ?_⟩
  have E2 := E1.trans ((Ex.new ht2).trans e2)
  clear e2 ht2 T1 E1 ht
  clear H1 t t2
  walk_at "go"
  refine ⟨p, r, a, b, c, d, rfl, E2 _ _ hp, E2 _ _ hr', ba.le, bb.le, bc.le, bd.le, fun z => absurd z z2, fun _ t ht => ?_⟩
  have E3 := E2.trans (Ex.new (o := .tup [.int (fru (a * d - c * b) (b * d)), .int (frl (a * d - c * b) (b * d))]) ht)
  have T1 := @upd_same H2 t (.tup [.int (fru (a * d - c * b) (b * d)), .int (frl (a * d - c * b) (b * d))])
  revert E3 T1
  generalize upd H2 t (.tup [.int (fru (a * d - c * b) (b * d)), .int (frl (a * d - c * b) (b * d))]) = H3
  intro E3 T1
  walk_at "go"
  refine ⟨_, _, rfl, (n1.sub n3).le, n2.le, p2, fun t2 ht2 => ?_⟩
  walk_at "go"
  refine ⟨_, _, _, rfl, Rep.two (Ex.new ht2 _ _ T1) (Rep.i _) (Rep.i _), Rep.two upd_same (Rep.i _) (Rep.i _), size2 _ _, fun H4 e2 => ?_⟩
  have E4 := E3.trans ((Ex.new ht2).trans e2)
  clear e2 ht2 T1 E3 ht
  clear H3 t t2
  walk_at "go"
  refine ⟨p, r, a, b, c, d, rfl, E4 _ _ hp, E4 _ _ hr', ba.le, bb.le, bc.le, bd.le, fun z => absurd z z2, fun _ t ht => ?_⟩
  have E5 := E4.trans (Ex.new (o := .tup [.int (fru (a * c) (b * d)), .int (frl (a * c) (b * d))]) ht)
  have T1 := @upd_same H4 t (.tup [.int (fru (a * c) (b * d)), .int (frl (a * c) (b * d))])
  revert E5 T1
  generalize upd H4 t (.tup [.int (fru (a * c) (b * d)), .int (frl (a * c) (b * d))]) = H5
  intro E5 T1
  walk_at "go"
  refine ⟨_, _, rfl, n4.le, n2.le, p2, fun t2 ht2 => ?_⟩
  walk_at "go"
  refine ⟨_, _, _, rfl, Rep.two (Ex.new ht2 _ _ T1) (Rep.i _) (Rep.i _), Rep.two upd_same (Rep.i _) (Rep.i _), size2 _ _, fun H6 e2 => ?_⟩
  have E6 := E5.trans ((Ex.new ht2).trans e2)
  clear e2 ht2 T1 E5 ht
  clear H5 t t2
  walk_at "go"
  refine ⟨p, r, a, b, c, d, rfl, E6 _ _ hp, E6 _ _ hr', ba.le, bb.le, bc.le, bd.le, ?_⟩
  walk_at "go"
  refine ⟨_, _, _, rfl, Rep.b _, Rep.b _, by simp only [D.size]; decide, fun H7 e7 => ?_⟩
  have E7 := E6.trans e7
  clear e7
  walk_at "go"
  have fin : ∀ (due : V) (H8 : Hp), Ex H H8 → ((b * c = 0 ∧ due = .non) ∨ (b * c ≠ 0 ∧ ∃ p, due = .ref p ∧ H8 p = some (.tup [.int (fru (a * d) (b * c)), .int (frl (a * d) (b * c))]))) → spRight [.int 1, .ref p, .ref r, due] H8 Q (fun cls d H => E cls d H) := fun due H8 e8 hd =>
    ⟨1, _, _, due, a * d, b * c, rfl, .inr ⟨by decide, p, r, a, b, c, d, rfl, rfl, e8 _ _ hp, e8 _ _ hr', ba.le, bb.le, bc.le, bd.le, rfl, rfl⟩, hd, fun H9 e9 => q _ (e8.trans e9)⟩
  refine ⟨_, _, rfl, n1.le, n5.le, fun z => ?_, fun z t ht => ?_⟩
  · walk_at "go"
    exact fin _ _ E7 (.inl ⟨z, rfl⟩)
  · walk_at "go"
    exact fin _ _ (E7.trans (Ex.new ht)) (.inr ⟨z, _, rfl, upd_same⟩)

theorem ok_law (T : Txt K mg) : FnOk P w K mg base (L2.CX P w) 8 T.a_law T.d_law ["_law_script"] (spLaw K) := by
  refine T.F_law.okX sc_law (fun vs H Q E h => ?_) (fun cdv A outer s H vs Q E hr h => ?_)
  · obtain ⟨_, _, rfl, _⟩ := h
    rfl
  obtain ⟨scr, ns, rfl, hS, hl, q⟩ := h
  refine ⟨_, (pss_cons (ps_set (i := 1) sc_law.nd rfl (by first | exact Or.inl rfl | exact Or.inr rfl) (pe_lst pa_nil))
      (pss_cons (ps_for (passes_of rfl) rfl (pi_range1 rfl T.z_range (pa_cons (pe_callB (uk_max2 rfl) rfl T.z_max boot_max (pa_cons pe_int (pa_cons (pe_callB (uk_min2 rfl) rfl T.z_min boot_min (pa_cons pe_int (pa_cons (pe_callB uk_len rfl T.z_len boot_len (pa_cons (uv 0) pa_nil)) pa_nil))) pa_nil))) pa_nil)) (pg_name (i := 2) sc_law.nd rfl (by first | exact Or.inl rfl | exact Or.inr rfl)) (pss_cons (ps_set (i := 3) sc_law.nd rfl (by first | exact Or.inl rfl | exact Or.inr rfl) (pe_callD (ok_law_box T) (hr.mono (by decide)) rfl T.m_law_box T.F_law_box.kp T.b_law_box .nil (fun σ => passAt (takes_of rfl rfl rfl rfl) σ) (pa_cons (uv 0) (pa_cons (uv 2) pa_nil))))
      (pss_cons (ps_par (i := 4) (j := 5) rfl sc_law.nd rfl rfl (by decide) rfl rfl (pa_cons (pe_callD (ok_law_whole T) (hr.mono (by decide)) rfl T.m_law_whole T.F_law_whole.kp T.b_law_whole .nil (fun σ => passAt (takes_of rfl rfl rfl rfl) σ) (pa_cons (uv 3) pa_nil)) (pa_cons (pe_op uo_mul (pe_callD (ok_law_whole T) (hr.mono (by decide)) rfl T.m_law_whole T.F_law_whole.kp T.b_law_whole .nil (fun σ => passAt (takes_of rfl rfl rfl rfl) σ) (pa_cons (uv 3) pa_nil)) (pe_callTy uk_int rfl T.z_int boot_int (pa_cons (pe_cmpR uo_gt (pe_callD (ok_law_take T) (hr.mono (by decide)) rfl T.m_law_take T.F_law_take.kp T.b_law_take .nil (fun σ => passAt (takes_of rfl rfl rfl rfl) σ) (pa_cons (uv 3) (pa_cons pe_int pa_nil))) pe_int (nomark _)) pa_nil))) pa_nil)) rfl)
      (pss_cons (ps_set (i := 6) sc_law.nd rfl (by first | exact Or.inl rfl | exact Or.inr rfl) (pe_callD (ok_law_made_of T) (hr.mono (by decide)) rfl T.m_law_made_of T.F_law_made_of.kp T.b_law_made_of .nil (fun σ => passAt (takes_of rfl rfl rfl rfl) σ) (pa_cons (uv 4) (pa_cons (uv 5) pa_nil))))
      (pss_cons (ps_if (PW.pt (pw_or (pt_not (ut (pe_callD (ok_law_right T) (hr.mono (by decide)) rfl T.m_law_right T.F_law_right.kp T.b_law_right .nil (fun σ => passAt (takes_of rfl rfl rfl rfl) σ) (pa_cons pe_int (pa_cons (uv 4) (pa_cons (uv 5) (pa_cons (uv 6) pa_nil))))))) (pw_or1 (pt_not (ut (pe_callD (ok_law_alike T) (hr.mono (by decide)) rfl T.m_law_alike T.F_law_alike.kp T.b_law_alike .nil (fun σ => passAt (takes_of rfl rfl rfl rfl) σ) (pa_cons (pe_callD (ok_fraction_of T) (hr.mono (by decide)) rfl T.m_fraction_of T.F_fraction_of.kp T.bv_fraction_of1.choose_spec.2 T.bv_fraction_of1.choose_spec.1 (fun σ => passAt (takes_of rfl rfl rfl rfl) σ) (pa_cons (uv 4) pa_nil)) (pa_cons (pe_tup (pa_cons (uv 4) (pa_cons pe_int pa_nil))) pa_nil)))))))) (pss_one (ps_ret pe_bl)) pss_nil)
      (pss_one (ps_expr (pe_bm PySem.F.plainAttrs_list PySem.F.slot_list_append PySem.F.type_list_append mt_append (uv 1) (pa_cons (pe_ix ux_seq (pe_lst (pa_cons (uv 6) (pa_cons (pe_callD (ok_law_lowest T) (hr.mono (by decide)) rfl T.m_law_lowest T.F_law_lowest.kp T.b_law_lowest .nil (fun σ => passAt (takes_of rfl rfl rfl rfl) σ) (pa_cons (uv 4) (pa_cons (pe_op uo_add pe_int (pe_callB uk_abs rfl T.z_abs boot_abs (pa_cons (uv 5) pa_nil))) pa_nil))) pa_nil))) (pe_callTy uk_int rfl T.z_int boot_int (pa_cons (pe_cmpR uo_isN (uv 6) pe_non (nomark _)) pa_nil)) (fun _ _ => rfl)) pa_nil)))))))))
      (pss_cons (ps_set (i := 1) sc_law.nd rfl (by first | exact Or.inl rfl | exact Or.inr rfl) (pe_op uo_add (uv 1) (pe_lst (pa_cons (pe_tup (pa_cons pe_int (pa_cons pe_int pa_nil))) (pa_cons (pe_ix ux_seq (uv 1) pe_int (fun _ _ => rfl)) pa_nil)))))
      (pss_cons (ps_for (passes_of rfl) rfl (RZ.pi_zipA rfl T.z_zip (pa_cons (uv 1) (pa_cons (pe_op uo_add (pe_slice sl_list (uv 1) (po_some pe_int) po_none) (pe_slice sl_list (uv 1) po_none (po_some pe_int))) pa_nil))) (pg_tup rfl (pgs_cons (pg_name (i := 7) sc_law.nd rfl (by first | exact Or.inl rfl | exact Or.inr rfl)) (pgs_cons (pg_name (i := 8) sc_law.nd rfl (by first | exact Or.inl rfl | exact Or.inr rfl)) pgs_nil))) (pss_one (ps_if (PW.pt (pw_or (pt_not (ut (pe_callD (ok_law_both T) (hr.mono (by decide)) rfl T.m_law_both T.F_law_both.kp T.b_law_both .nil (fun σ => passAt (takes_of rfl rfl rfl rfl) σ) (pa_cons (uv 7) (pa_cons (uv 8) pa_nil))))) (pw_or (pt_not (ut (pe_callD (ok_law_both T) (hr.mono (by decide)) rfl T.m_law_both T.F_law_both.kp T.b_law_both .nil (fun σ => passAt (takes_of rfl rfl rfl rfl) σ) (pa_cons (uv 8) (pa_cons (uv 7) pa_nil))))) (pw_or1 (pt_not (ut (pe_callD (ok_law_both T) (hr.mono (by decide)) rfl T.m_law_both T.F_law_both.kp T.b_law_both .nil (fun σ => passAt (takes_of rfl rfl rfl rfl) σ) (pa_cons (uv 7) (pa_cons (uv 7) pa_nil))))))))) (pss_one (ps_ret pe_bl)) pss_nil)))
      (pss_one (ps_ret (pe_callD (ok_law_both T) (hr.mono (by decide)) rfl T.m_law_both T.F_law_both.kp T.b_law_both .nil (fun σ => passAt (takes_of rfl rfl rfl rfl) σ) (pa_cons (pe_ix ux_seq (uv 1) pe_int (fun _ _ => rfl)) (pa_cons (pe_ix ux_seq (uv 1) pe_int (fun _ _ => rfl)) pa_nil))))))))), ?_⟩
  walk_at "go"
  refine g_new fun s hs => ?_
  have E0 := Ex.new (o := .lst []) hs
  have S0 := @upd_same H s (.lst [])
  revert E0 S0
  generalize upd H s (.lst []) = H0
  intro E0 S0
  walk_at "go"
  refine g_lenSq (E0.seqL hS) ?_
  walk_at "go"
  have hln : (ns.map V.int).length ≤ 63 := by rw [List.length_map]; exact hl
  have hn : ∃ n : Nat, max 3 (min 8 (((ns.map V.int).length : Nat) : Int)) = (n : Int) ∧ 3 ≤ n ∧ n ≤ 8 := ⟨(max 3 (min 8 (((ns.map V.int).length : Nat) : Int))).toNat, by omega, by omega, by omega⟩
  obtain ⟨n, en, n3, n8⟩ := hn
  rw [en]
  refine ⟨_, rfl, by omega, by omega, ?_⟩
  rw [Int.toNat_natCast]
  refine for_range (fun i σ H1 => (∃ o2 o3 o4 o5 o6, σ = [some (.ref scr), some (.ref s), o2, o3, o4, o5, o6, none, none]) ∧ Ex H H1 ∧ ∃ ts, H1 s = some (.lst ts) ∧ ts.length = i ∧ ∀ v ∈ ts, Good H1 v) ⟨⟨none, none, none, none, none, rfl⟩, E0, [], S0, rfl, fun v z => nomatch z⟩ ?_ ?_
  · rintro i σ H1 hi ⟨⟨o2, o3, o4, o5, o6, rfl⟩, e1, ts, hts, hlen, hg⟩
    walk_at "go"
    refine ⟨scr, ns, i, by rw [Int.zero_add]; rfl, e1.seqL hS, hl, fun p H2 hp e2 hb2 => ?_⟩
    walk_at "go"
    refine ⟨p, rfl, hb2, fun u H3 bu b3 hb3 => ?_⟩
    walk_at "go"
    refine ⟨p, rfl, hb3, fun l H4 bl b4 hb4 => ?_⟩
    walk_at "go"
    refine ⟨p, 5, rfl, hb4, by decide, by decide, fun d H5 d0 d1 b5 hb5 => ?_⟩
    walk_at "go"
    have bL := bl.mul (b2z_bits (decide (0 < d)))
    refine g_i ?_ (bl.cm (b2z_bits _))
    have e5 : Ex H1 H5 := Ex.of_but ((((e2.but p).trans b3).trans b4).trans b5) hp
    clear hb2 b3 hb3 b4 hb4 b5 hb5 e2
    generalize l * b2z (decide (0 < d)) = L at bL
    walk_at "go"
    refine spMade.of bu.le bL.le fun due H6 e6 hd => ?_
    walk_at "go"
    refine ⟨0, _, _, due, u, L, rfl, .inl ⟨rfl, rfl, rfl, bu.le, bL.le⟩, hd, fun H7 e7 => ?_⟩
    walk_at "go"
    refine ⟨u, 1, rfl, bu.le, by decide, fun z => absurd z (by decide), fun _ t ht => ?_⟩
    walk_at "go"
    refine g_new fun t2 ht2 => ?_
    walk_at "go"
    refine ⟨_, _, _, rfl, Rep.two (d := .int u) (e := .int 1) (Ex.new ht2 _ _ upd_same) (by rw [fru_one]; exact Rep.i _) (by rw [frl_one]; exact Rep.i _), Rep.two upd_same (Rep.i _) (Rep.i _), size2 _ _, fun H8 e8 => ?_⟩
    have e68 : Ex H6 H8 := e7.trans ((Ex.new ht).trans ((Ex.new ht2).trans e8))
    have e18 := e5.trans (e6.trans e68)
    have s8 := e18 _ _ hts
    walk_at "go"
    have bA : Bits 112 (1 + (L.natAbs : Nat)) := (show Bits 111 1 from by decide).add bL.abs
    have pA : (0 : Int) < 1 + (L.natAbs : Nat) := by omega
    refine ⟨_, _, rfl, bu.le, bA.le, pA, fun t4 ht4 => ?_⟩
    walk_at "go"
    refine g_new fun t5 ht5 => ?_
    have e9 := (Ex.new (o := .tup [.int (fru u (1 + (L.natAbs : Nat))), .int (frl u (1 + (L.natAbs : Nat)))]) ht4).trans (Ex.new (o := .lst [due, .ref t4]) ht5)
    have t9 := Ex.new (o := .lst [due, .ref t4]) ht5 _ _ (@upd_same H8 t4 (.tup [.int (fru u (1 + (L.natAbs : Nat))), .int (frl u (1 + (L.natAbs : Nat)))]))
    have l9 := @upd_same (upd H8 t4 (.tup [.int (fru u (1 + (L.natAbs : Nat))), .int (frl u (1 + (L.natAbs : Nat)))])) t5 (.lst [due, .ref t4])
    revert e9 t9 l9
    generalize upd (upd H8 t4 (.tup [.int (fru u (1 + (L.natAbs : Nat))), .int (frl u (1 + (L.natAbs : Nat)))])) t5 (.lst [due, .ref t4]) = H9
    intro e9 t9 l9
    have s9 := e9 _ _ s8
    have e19 := e18.trans e9
    have fin : ∀ v, Good H9 v → Ex H (upd H9 s (.lst (ts ++ [v]))) ∧ ∃ ts', upd H9 s (.lst (ts ++ [v])) s = some (.lst ts') ∧ ts'.length = i + 1 ∧ ∀ x ∈ ts', Good (upd H9 s (.lst (ts ++ [v]))) x := fun v gv => by
      have b10 : But s H9 (upd H9 s (.lst (ts ++ [v]))) := (But.refl _ _).upd
      have tk := b10.tkl s9
      refine ⟨(e1.trans e19).at_new hs, _, upd_same, by rw [List.length_append, hlen]; rfl, fun x hx => ?_⟩
      rcases List.mem_append.1 hx with hx | hx
      · exact ((hg x hx).ex e19).tk tk
      · rw [List.mem_singleton.1 hx]
        exact gv.tk tk
    walk_at "go"
    rcases hd with ⟨z, rfl⟩ | ⟨z, pd, rfl, hpd⟩
    · walk_at "go"
      refine g_app s9 (Nat.lt_of_le_of_lt (by omega : ts.length ≤ 10) (by decide)) ?_
      walk_at "go"
      exact ⟨⟨_, _, _, _, _, rfl⟩, fin _ (Good.fr t9 (by omega) bu.le bA.le)⟩
    · walk_at "go"
      refine g_app s9 (Nat.lt_of_le_of_lt (by omega : ts.length ≤ 10) (by decide)) ?_
      walk_at "go"
      exact ⟨⟨_, _, _, _, _, rfl⟩, fin _ (Good.fr ((e68.trans e9) _ _ hpd) z bu.le bL.le)⟩
  · rintro σ H1 ⟨⟨o2, o3, o4, o5, o6, rfl⟩, e1, ts, hts, hlen, hg⟩
    match ts, hlen, hts, hg with
    | [], hlen, _, _ => exact absurd hlen (by simp; omega)
    | [_], hlen, _, _ => exact absurd hlen (by simp; omega)
    | v0 :: v1 :: ts, hlen, hts, hg =>
    walk_at "go"
    refine g_new fun t ht => ?_
    walk_at "go"
    refine g_ixL (Ex.new ht _ _ hts) (atI_nat (j := 0) (show (v0 :: v1 :: ts)[0]? = some v0 from rfl)) ?_
    walk_at "go"
    refine g_new fun t2 ht2 => ?_
    walk_at "go"
    have lz : (v0 :: v1 :: ts).length ≤ 8 := by omega
    refine g_catL (Ex.new ht2 _ _ (Ex.new ht _ _ hts)) upd_same (by rw [hlen]; simp; omega) fun s2 hs2 => ?_
    have e2 := (Ex.new (o := .tup [.int 0, .int 1]) ht).trans ((Ex.new (o := .lst [.ref t, v0]) ht2).trans (Ex.new (o := .lst (v0 :: v1 :: ts ++ [V.ref t, v0])) hs2))
    have tt := Ex.new (o := .lst (v0 :: v1 :: ts ++ [V.ref t, v0])) hs2 _ _ (Ex.new (o := .lst [.ref t, v0]) ht2 _ _ (@upd_same H1 t (.tup [.int 0, .int 1])))
    have st := @upd_same (upd (upd H1 t (.tup [.int 0, .int 1])) t2 (.lst [.ref t, v0])) s2 (.lst (v0 :: v1 :: ts ++ [V.ref t, v0]))
    revert e2 tt st
    generalize upd (upd (upd H1 t (.tup [.int 0, .int 1])) t2 (.lst [.ref t, v0])) s2 (.lst (v0 :: v1 :: ts ++ [V.ref t, v0])) = H2
    intro e2 tt st
    have hg2 : ∀ v ∈ v0 :: v1 :: ts ++ [V.ref t, v0], Good H2 v := fun v hv => by
      rcases List.mem_append.1 hv with hv | hv
      · exact (hg v hv).ex e2
      · rcases List.mem_cons.1 hv with rfl | hv
        · exact ⟨t, 0, 1, rfl, tt, by decide, by decide, by decide⟩
        · rw [List.mem_singleton.1 hv]
          exact (hg v0 List.mem_cons_self).ex e2
    have lx : (v0 :: v1 :: ts ++ [V.ref t, v0]).length ≤ 10 := by rw [List.length_append]; simp at lz ⊢; omega
    have cl : (cutV (v0 :: v1 :: ts ++ [V.ref t, v0]) (some 1) none ++ cutV (v0 :: v1 :: ts ++ [V.ref t, v0]) none (some 1)).length = (v0 :: v1 :: ts ++ [V.ref t, v0]).length := by
      simp [cutV, HT.sIx]
    have ex0 : (v0 :: v1 :: ts ++ [V.ref t, v0])[0]? = some v0 := rfl
    have ex1 : (v0 :: v1 :: ts ++ [V.ref t, v0])[1]? = some v1 := rfl
    generalize v0 :: v1 :: ts ++ [V.ref t, v0] = xs at *
    walk_at "go"
    refine g_slL st fun s3 hs3 => ?_
    walk_at "go"
    refine g_slL (Ex.new hs3 _ _ st) fun s4 hs4 => ?_
    walk_at "go"
    have k1 := cutV_length xs (some 1) none
    have k2 := cutV_length xs none (some 1)
    refine g_catL (Ex.new hs4 _ _ upd_same) upd_same (by omega) fun s5 hs5 => ?_
    have e5 := (Ex.new (o := .lst (cutV xs (some 1) none)) hs3).trans ((Ex.new (o := .lst (cutV xs none (some 1))) hs4).trans (Ex.new (o := .lst (cutV xs (some 1) none ++ cutV xs none (some 1))) hs5))
    have st5 := @upd_same (upd (upd H2 s3 (.lst (cutV xs (some 1) none))) s4 (.lst (cutV xs none (some 1)))) s5 (.lst (cutV xs (some 1) none ++ cutV xs none (some 1)))
    revert e5 st5
    generalize upd (upd (upd H2 s3 (.lst (cutV xs (some 1) none))) s4 (.lst (cutV xs none (some 1)))) s5 (.lst (cutV xs (some 1) none ++ cutV xs none (some 1))) = H5
    intro e5 st5
    have sx := e5 _ _ st
    walk_at "go"
    refine ⟨s2, s5, xs, _, rfl, .inl ⟨sqL sx, sqL st5, ?_⟩⟩
    refine RZ.for_zipL cl.symm (fun i σ H6 => (∃ o7 o8, σ = [some (.ref scr), some (.ref s2), o2, o3, o4, o5, o6, o7, o8]) ∧ Ex H5 H6) ⟨⟨none, none, rfl⟩, Ex.refl _⟩ (fun i σ H6 h => ⟨h.2.seqL (sqL sx), h.2.seqL (sqL st5)⟩) ?_ ?_
    · rintro i x y z σ H6 hx hy ⟨⟨o7, o8, rfl⟩, e6⟩ hz
      have gx := ((hg2 x (List.mem_of_getElem? hx)).ex e5).ex e6
      have gy : Good H6 y := by
        rcases List.mem_append.1 (List.mem_of_getElem? hy) with hv | hv
        · exact ((hg2 y (cutV_mem hv)).ex e5).ex e6
        · exact ((hg2 y (cutV_mem hv)).ex e5).ex e6
      have e7 := Ex.new (o := .tup [x, y]) hz
      refine g_tup2 upd_same ?_
      have gx7 := gx.ex e7
      have gy7 := gy.ex e7
      revert e7 gx7 gy7
      generalize upd H6 z (.tup [x, y]) = H7
      intro e7 ⟨p, a, b, ex, fp⟩ ⟨r, c, d, ey, fr⟩
      subst ex
      subst ey
      walk_at "go"
      refine ⟨p, r, a, b, c, d, rfl, fp, fr, fun H8 e8 => ?_⟩
      walk_at "go"
      refine ⟨r, p, c, d, a, b, rfl, ⟨e8 _ _ fr.1, fr.2⟩, ⟨e8 _ _ fp.1, fp.2⟩, fun H9 e9 => ?_⟩
      walk_at "go"
      refine ⟨p, p, a, b, a, b, rfl, ⟨e9 _ _ (e8 _ _ fp.1), fp.2⟩, ⟨e9 _ _ (e8 _ _ fp.1), fp.2⟩, fun H10 e10 => ?_⟩
      walk_at "go"
      exact ⟨⟨_, _, rfl⟩, e6.trans (e7.trans (e8.trans (e9.trans e10)))⟩
    · rintro σ H6 ⟨⟨o7, o8, rfl⟩, e6⟩
      walk_at "go"
      refine g_ixL (e6 _ _ sx) (atI_nat (j := 0) ex0) ?_
      walk_at "go"
      refine g_ixL (e6 _ _ sx) (atI_nat (j := 1) ex1) ?_
      obtain ⟨p, a, b, rfl, fp⟩ := ((hg2 v0 (List.mem_of_getElem? ex0)).ex e5).ex e6
      obtain ⟨r, c, d, rfl, fr⟩ := ((hg2 v1 (List.mem_of_getElem? ex1)).ex e5).ex e6
      walk_at "go"
      exact ⟨p, r, a, b, c, d, rfl, fp, fr, fun H7 e7 => q _⟩

end
theorem mk_txt {K : PySem.W.Frag} {h : Heap} {mg : Str → Option Value} (X : K.In h) (G : h.Ns mainGlobals mg)
    {C_BoughError C_Nought fI_Nought f_common_part f_fraction_of dt_fraction_of f_added f_taken_away f_multiplied f_divided f_is_less f_law_box f_law_take f_law_alike f_law_shared f_law_lowest f_law_whole f_law_made_of f_law_heard f_law_right f_law_both f_law : Addr}
    {ocI_Nought kVI_Nought dcI_Nought pmI_Nought cdI_Nought ctI_Nought oc_common_part kV_common_part dc_common_part pm_common_part cd_common_part ct_common_part oc_fraction_of kV_fraction_of dc_fraction_of pm_fraction_of cd_fraction_of ct_fraction_of do_fraction_of oc_added kV_added dc_added pm_added cd_added ct_added oc_taken_away kV_taken_away dc_taken_away pm_taken_away cd_taken_away ct_taken_away oc_multiplied kV_multiplied dc_multiplied pm_multiplied cd_multiplied ct_multiplied oc_divided kV_divided dc_divided pm_divided cd_divided ct_divided oc_is_less kV_is_less dc_is_less pm_is_less cd_is_less ct_is_less oc_law_box kV_law_box dc_law_box pm_law_box cd_law_box ct_law_box oc_law_take kV_law_take dc_law_take pm_law_take cd_law_take ct_law_take oc_law_alike kV_law_alike dc_law_alike pm_law_alike cd_law_alike ct_law_alike oc_law_shared kV_law_shared dc_law_shared pm_law_shared cd_law_shared ct_law_shared oc_law_lowest kV_law_lowest dc_law_lowest pm_law_lowest cd_law_lowest ct_law_lowest oc_law_whole kV_law_whole dc_law_whole pm_law_whole cd_law_whole ct_law_whole oc_law_made_of kV_law_made_of dc_law_made_of pm_law_made_of cd_law_made_of ct_law_made_of oc_law_heard kV_law_heard dc_law_heard pm_law_heard cd_law_heard ct_law_heard oc_law_right kV_law_right dc_law_right pm_law_right cd_law_right ct_law_right oc_law_both kV_law_both dc_law_both pm_law_both cd_law_both ct_law_both oc_law kV_law dc_law pm_law cd_law ct_law : Value}
    {odI_Nought anI_Nought od_common_part an_common_part od_fraction_of an_fraction_of dd_fraction_of od_added an_added od_taken_away an_taken_away od_multiplied an_multiplied od_divided an_divided od_is_less an_is_less od_law_box an_law_box od_law_take an_law_take od_law_alike an_law_alike od_law_shared an_law_shared od_law_lowest an_law_lowest od_law_whole an_law_whole od_law_made_of an_law_made_of od_law_heard an_law_heard od_law_right an_law_right od_law_both an_law_both od_law an_law : Option Addr}
    {slI_Nought sl_common_part sl_fraction_of ds_fraction_of sl_added sl_taken_away sl_multiplied sl_divided sl_is_less sl_law_box sl_law_take sl_law_alike sl_law_shared sl_law_lowest sl_law_whole sl_law_made_of sl_law_heard sl_law_right sl_law_both sl_law : Array (Option Value)}
    {dk_fraction_of0 : Tok}
    {nm_BoughError qn_BoughError : Str} {Nn_BoughError : Addr} {bs_BoughError : List Value} {sn_BoughError : List Str} {sub_BoughError : List Value} {ab_BoughError : Bool} {col_BoughError : Option Bool} {dd_BoughError : Option Addr} {m0_BoughError m1_BoughError m2_BoughError m3_BoughError m5_BoughError : Option Value}
    {nm_Nought qn_Nought : Str} {Nn_Nought : Addr} {bs_Nought : List Value} {sn_Nought : List Str} {sub_Nought : List Value} {ab_Nought : Bool} {col_Nought : Option Bool} {dd_Nought : Option Addr} {m0_Nought m1_Nought m2_Nought m3_Nought m5_Nought : Option Value}
    {dn_fraction_of : Nat}
    (ac_BoughError : PySem.W.nsIn K mainGlobals "BoughError" = some (some (.ref C_BoughError)))
    (xl_BoughError : K.lookup C_BoughError = some (excClassObj nm_BoughError qn_BoughError C_BoughError Nn_BoughError bs_BoughError [.type "ValueError", .type "Exception", .type "BaseException", .type "object"] true sn_BoughError sub_BoughError ab_BoughError col_BoughError dd_BoughError m0_BoughError m1_BoughError m2_BoughError m3_BoughError m5_BoughError "ValueError.__new__"))
    (xe_BoughError : PySem.W.subIn K (.ref C_BoughError) (.type "BaseException") = some true)
    (xt_BoughError : PySem.W.typeIn K (.ref C_BoughError) = some (.type "type"))
    (xk_BoughError : PySem.W.keepIn K (.ref C_BoughError) = true)
    (xi_BoughError : PySem.W.isClsIn K C_BoughError = true)
    (xs_BoughError : PySem.W.subIn K (.ref C_BoughError) (.ref C_BoughError) = some true)
    (g1_BoughError : PySem.W.findIn K (.ref C_BoughError) "__getattribute__" = some (some (.builtin "BaseException.__getattribute__")))
    (g2_BoughError : PySem.W.findIn K (.ref C_BoughError) "__getattr__" = some none)
    (g3_BoughError : PySem.W.hasDictIn K C_BoughError = true)
    (g4_BoughError : PySem.W.findIn K (.ref C_BoughError) "__class__" = some (some (.builtin "object.__class__")))
    (g5_BoughError : PySem.W.specialIn K (.builtin "object.__class__") "__get__" = some (some (.builtin "getset_descriptor.__get__")))
    (g6_BoughError : PySem.W.takesIn K (.builtin "object.__class__") = some true)
    (g7_BoughError : PySem.W.mroIn K C_BoughError (.type "object") = some true)
    (h1_BoughError : PySem.W.specialIn K (.ref C_BoughError) "__getattribute__" = some (some (.builtin "type.__getattribute__")))
    (h2_BoughError : PySem.W.readsIn K C_BoughError (.type "type") = true)
    (h3_BoughError : PySem.W.findCls K (.ref C_BoughError) (.type "type") "__init__" = some (.val (.builtin "ValueError.__init__")))
    (ac_Nought : PySem.W.nsIn K mainGlobals "Nought" = some (some (.ref C_Nought)))
    (xl_Nought : K.lookup C_Nought = some (excClassObj nm_Nought qn_Nought C_Nought Nn_Nought bs_Nought [.type "ZeroDivisionError", .type "ArithmeticError", .type "Exception", .type "BaseException", .type "object"] true sn_Nought sub_Nought ab_Nought col_Nought dd_Nought m0_Nought m1_Nought m2_Nought m3_Nought m5_Nought "ZeroDivisionError.__new__"))
    (xe_Nought : PySem.W.subIn K (.ref C_Nought) (.type "BaseException") = some true)
    (xt_Nought : PySem.W.typeIn K (.ref C_Nought) = some (.type "type"))
    (xk_Nought : PySem.W.keepIn K (.ref C_Nought) = true)
    (xi_Nought : PySem.W.isClsIn K C_Nought = true)
    (xs_Nought : PySem.W.subIn K (.ref C_Nought) (.ref C_Nought) = some true)
    (g1_Nought : PySem.W.findIn K (.ref C_Nought) "__getattribute__" = some (some (.builtin "BaseException.__getattribute__")))
    (g2_Nought : PySem.W.findIn K (.ref C_Nought) "__getattr__" = some none)
    (g3_Nought : PySem.W.hasDictIn K C_Nought = true)
    (g4_Nought : PySem.W.findIn K (.ref C_Nought) "__class__" = some (some (.builtin "object.__class__")))
    (g5_Nought : PySem.W.specialIn K (.builtin "object.__class__") "__get__" = some (some (.builtin "getset_descriptor.__get__")))
    (g6_Nought : PySem.W.takesIn K (.builtin "object.__class__") = some true)
    (g7_Nought : PySem.W.mroIn K C_Nought (.type "object") = some true)
    (iI_Nought : PySem.W.findIn K (.ref C_Nought) "__init__" = some (some (.ref fI_Nought)))
    (tI_Nought : PySem.W.typeIn K (.ref fI_Nought) = some (.type "function"))
    (lI_Nought : K.lookup fI_Nought = some ⟨ocI_Nought, odI_Nought, .func (PySem.W.fnOf "__init__" "Nought.__init__" (defArgs sI_Nought) (defBody sI_Nought) (defScope sI_Nought) .none kVI_Nought dcI_Nought pmI_Nought anI_Nought cdI_Nought ctI_Nought), slI_Nought⟩)
    (cI_Nought : PySem.W.codeIn K cdI_Nought "Nought.__init__" = true)
    (kI_Nought : PySem.W.keepIn K (.ref fI_Nought) = true)
    (vb_ValueError : PySem.W.findCls K (.type "ValueError") (.type "type") "__init__" = some (.val (.builtin "ValueError.__init__")))
    (vb_ZeroDivisionError : PySem.W.findCls K (.type "ZeroDivisionError") (.type "type") "__init__" = some (.val (.builtin "ZeroDivisionError.__init__")))
    (ysNZ : PySem.W.subIn K (.ref C_Nought) (.type "ZeroDivisionError") = some true)
    (ysNB : PySem.W.subIn K (.ref C_Nought) (.ref C_BoughError) = some false)
    (a_common_part : PySem.W.nsIn K mainGlobals "common_part" = some (some (.ref f_common_part)))
    (l_common_part : K.lookup f_common_part = some ⟨oc_common_part, od_common_part, .func (PySem.W.fnOf "common_part" "common_part" (defArgs s_common_part) (defBody s_common_part) (defScope s_common_part) .none kV_common_part dc_common_part pm_common_part an_common_part cd_common_part ct_common_part), sl_common_part⟩)
    (c_common_part : PySem.W.codeIn K cd_common_part "common_part" = true)
    (k_common_part : PySem.W.keepIn K (.ref f_common_part) = true)
    (a_fraction_of : PySem.W.nsIn K mainGlobals "fraction_of" = some (some (.ref f_fraction_of)))
    (l_fraction_of : K.lookup f_fraction_of = some ⟨oc_fraction_of, od_fraction_of, .func (PySem.W.fnOf "fraction_of" "fraction_of" (defArgs s_fraction_of) (defBody s_fraction_of) (defScope s_fraction_of) (.ref dt_fraction_of) kV_fraction_of dc_fraction_of pm_fraction_of an_fraction_of cd_fraction_of ct_fraction_of), sl_fraction_of⟩)
    (c_fraction_of : PySem.W.codeIn K cd_fraction_of "fraction_of" = true)
    (k_fraction_of : PySem.W.keepIn K (.ref f_fraction_of) = true)
    (t_fraction_of : K.lookup dt_fraction_of = some ⟨do_fraction_of, dd_fraction_of, .seq #[.int 1 dk_fraction_of0] dn_fraction_of, ds_fraction_of⟩)
    (a_added : PySem.W.nsIn K mainGlobals "added" = some (some (.ref f_added)))
    (l_added : K.lookup f_added = some ⟨oc_added, od_added, .func (PySem.W.fnOf "added" "added" (defArgs s_added) (defBody s_added) (defScope s_added) .none kV_added dc_added pm_added an_added cd_added ct_added), sl_added⟩)
    (c_added : PySem.W.codeIn K cd_added "added" = true)
    (k_added : PySem.W.keepIn K (.ref f_added) = true)
    (a_taken_away : PySem.W.nsIn K mainGlobals "taken_away" = some (some (.ref f_taken_away)))
    (l_taken_away : K.lookup f_taken_away = some ⟨oc_taken_away, od_taken_away, .func (PySem.W.fnOf "taken_away" "taken_away" (defArgs s_taken_away) (defBody s_taken_away) (defScope s_taken_away) .none kV_taken_away dc_taken_away pm_taken_away an_taken_away cd_taken_away ct_taken_away), sl_taken_away⟩)
    (c_taken_away : PySem.W.codeIn K cd_taken_away "taken_away" = true)
    (k_taken_away : PySem.W.keepIn K (.ref f_taken_away) = true)
    (a_multiplied : PySem.W.nsIn K mainGlobals "multiplied" = some (some (.ref f_multiplied)))
    (l_multiplied : K.lookup f_multiplied = some ⟨oc_multiplied, od_multiplied, .func (PySem.W.fnOf "multiplied" "multiplied" (defArgs s_multiplied) (defBody s_multiplied) (defScope s_multiplied) .none kV_multiplied dc_multiplied pm_multiplied an_multiplied cd_multiplied ct_multiplied), sl_multiplied⟩)
    (c_multiplied : PySem.W.codeIn K cd_multiplied "multiplied" = true)
    (k_multiplied : PySem.W.keepIn K (.ref f_multiplied) = true)
    (a_divided : PySem.W.nsIn K mainGlobals "divided" = some (some (.ref f_divided)))
    (l_divided : K.lookup f_divided = some ⟨oc_divided, od_divided, .func (PySem.W.fnOf "divided" "divided" (defArgs s_divided) (defBody s_divided) (defScope s_divided) .none kV_divided dc_divided pm_divided an_divided cd_divided ct_divided), sl_divided⟩)
    (c_divided : PySem.W.codeIn K cd_divided "divided" = true)
    (k_divided : PySem.W.keepIn K (.ref f_divided) = true)
    (a_is_less : PySem.W.nsIn K mainGlobals "is_less" = some (some (.ref f_is_less)))
    (l_is_less : K.lookup f_is_less = some ⟨oc_is_less, od_is_less, .func (PySem.W.fnOf "is_less" "is_less" (defArgs s_is_less) (defBody s_is_less) (defScope s_is_less) .none kV_is_less dc_is_less pm_is_less an_is_less cd_is_less ct_is_less), sl_is_less⟩)
    (c_is_less : PySem.W.codeIn K cd_is_less "is_less" = true)
    (k_is_less : PySem.W.keepIn K (.ref f_is_less) = true)
    (a_law_box : PySem.W.nsIn K mainGlobals "_law_box" = some (some (.ref f_law_box)))
    (l_law_box : K.lookup f_law_box = some ⟨oc_law_box, od_law_box, .func (PySem.W.fnOf "_law_box" "_law_box" (defArgs s_law_box) (defBody s_law_box) (defScope s_law_box) .none kV_law_box dc_law_box pm_law_box an_law_box cd_law_box ct_law_box), sl_law_box⟩)
    (c_law_box : PySem.W.codeIn K cd_law_box "_law_box" = true)
    (k_law_box : PySem.W.keepIn K (.ref f_law_box) = true)
    (a_law_take : PySem.W.nsIn K mainGlobals "_law_take" = some (some (.ref f_law_take)))
    (l_law_take : K.lookup f_law_take = some ⟨oc_law_take, od_law_take, .func (PySem.W.fnOf "_law_take" "_law_take" (defArgs s_law_take) (defBody s_law_take) (defScope s_law_take) .none kV_law_take dc_law_take pm_law_take an_law_take cd_law_take ct_law_take), sl_law_take⟩)
    (c_law_take : PySem.W.codeIn K cd_law_take "_law_take" = true)
    (k_law_take : PySem.W.keepIn K (.ref f_law_take) = true)
    (a_law_alike : PySem.W.nsIn K mainGlobals "_law_alike" = some (some (.ref f_law_alike)))
    (l_law_alike : K.lookup f_law_alike = some ⟨oc_law_alike, od_law_alike, .func (PySem.W.fnOf "_law_alike" "_law_alike" (defArgs s_law_alike) (defBody s_law_alike) (defScope s_law_alike) .none kV_law_alike dc_law_alike pm_law_alike an_law_alike cd_law_alike ct_law_alike), sl_law_alike⟩)
    (c_law_alike : PySem.W.codeIn K cd_law_alike "_law_alike" = true)
    (k_law_alike : PySem.W.keepIn K (.ref f_law_alike) = true)
    (a_law_shared : PySem.W.nsIn K mainGlobals "_law_shared" = some (some (.ref f_law_shared)))
    (l_law_shared : K.lookup f_law_shared = some ⟨oc_law_shared, od_law_shared, .func (PySem.W.fnOf "_law_shared" "_law_shared" (defArgs s_law_shared) (defBody s_law_shared) (defScope s_law_shared) .none kV_law_shared dc_law_shared pm_law_shared an_law_shared cd_law_shared ct_law_shared), sl_law_shared⟩)
    (c_law_shared : PySem.W.codeIn K cd_law_shared "_law_shared" = true)
    (k_law_shared : PySem.W.keepIn K (.ref f_law_shared) = true)
    (a_law_lowest : PySem.W.nsIn K mainGlobals "_law_lowest" = some (some (.ref f_law_lowest)))
    (l_law_lowest : K.lookup f_law_lowest = some ⟨oc_law_lowest, od_law_lowest, .func (PySem.W.fnOf "_law_lowest" "_law_lowest" (defArgs s_law_lowest) (defBody s_law_lowest) (defScope s_law_lowest) .none kV_law_lowest dc_law_lowest pm_law_lowest an_law_lowest cd_law_lowest ct_law_lowest), sl_law_lowest⟩)
    (c_law_lowest : PySem.W.codeIn K cd_law_lowest "_law_lowest" = true)
    (k_law_lowest : PySem.W.keepIn K (.ref f_law_lowest) = true)
    (a_law_whole : PySem.W.nsIn K mainGlobals "_law_whole" = some (some (.ref f_law_whole)))
    (l_law_whole : K.lookup f_law_whole = some ⟨oc_law_whole, od_law_whole, .func (PySem.W.fnOf "_law_whole" "_law_whole" (defArgs s_law_whole) (defBody s_law_whole) (defScope s_law_whole) .none kV_law_whole dc_law_whole pm_law_whole an_law_whole cd_law_whole ct_law_whole), sl_law_whole⟩)
    (c_law_whole : PySem.W.codeIn K cd_law_whole "_law_whole" = true)
    (k_law_whole : PySem.W.keepIn K (.ref f_law_whole) = true)
    (a_law_made_of : PySem.W.nsIn K mainGlobals "_law_made_of" = some (some (.ref f_law_made_of)))
    (l_law_made_of : K.lookup f_law_made_of = some ⟨oc_law_made_of, od_law_made_of, .func (PySem.W.fnOf "_law_made_of" "_law_made_of" (defArgs s_law_made_of) (defBody s_law_made_of) (defScope s_law_made_of) .none kV_law_made_of dc_law_made_of pm_law_made_of an_law_made_of cd_law_made_of ct_law_made_of), sl_law_made_of⟩)
    (c_law_made_of : PySem.W.codeIn K cd_law_made_of "_law_made_of" = true)
    (k_law_made_of : PySem.W.keepIn K (.ref f_law_made_of) = true)
    (a_law_heard : PySem.W.nsIn K mainGlobals "_law_heard" = some (some (.ref f_law_heard)))
    (l_law_heard : K.lookup f_law_heard = some ⟨oc_law_heard, od_law_heard, .func (PySem.W.fnOf "_law_heard" "_law_heard" (defArgs s_law_heard) (defBody s_law_heard) (defScope s_law_heard) .none kV_law_heard dc_law_heard pm_law_heard an_law_heard cd_law_heard ct_law_heard), sl_law_heard⟩)
    (c_law_heard : PySem.W.codeIn K cd_law_heard "_law_heard" = true)
    (k_law_heard : PySem.W.keepIn K (.ref f_law_heard) = true)
    (a_law_right : PySem.W.nsIn K mainGlobals "_law_right" = some (some (.ref f_law_right)))
    (l_law_right : K.lookup f_law_right = some ⟨oc_law_right, od_law_right, .func (PySem.W.fnOf "_law_right" "_law_right" (defArgs s_law_right) (defBody s_law_right) (defScope s_law_right) .none kV_law_right dc_law_right pm_law_right an_law_right cd_law_right ct_law_right), sl_law_right⟩)
    (c_law_right : PySem.W.codeIn K cd_law_right "_law_right" = true)
    (k_law_right : PySem.W.keepIn K (.ref f_law_right) = true)
    (a_law_both : PySem.W.nsIn K mainGlobals "_law_both" = some (some (.ref f_law_both)))
    (l_law_both : K.lookup f_law_both = some ⟨oc_law_both, od_law_both, .func (PySem.W.fnOf "_law_both" "_law_both" (defArgs s_law_both) (defBody s_law_both) (defScope s_law_both) .none kV_law_both dc_law_both pm_law_both an_law_both cd_law_both ct_law_both), sl_law_both⟩)
    (c_law_both : PySem.W.codeIn K cd_law_both "_law_both" = true)
    (k_law_both : PySem.W.keepIn K (.ref f_law_both) = true)
    (a_law : PySem.W.nsIn K mainGlobals "law" = some (some (.ref f_law)))
    (l_law : K.lookup f_law = some ⟨oc_law, od_law, .func (PySem.W.fnOf "law" "law" (defArgs s_law) (defBody s_law) (defScope s_law) .none kV_law dc_law pm_law an_law cd_law ct_law), sl_law⟩)
    (c_law : PySem.W.codeIn K cd_law "law" = true)
    (k_law : PySem.W.keepIn K (.ref f_law) = true)
    (zb_ValueError : PySem.W.nsIn K mainGlobals "ValueError" = some none)
    (zb_ZeroDivisionError : PySem.W.nsIn K mainGlobals "ZeroDivisionError" = some none)
    (zb_abs : PySem.W.nsIn K mainGlobals "abs" = some none)
    (zb_bool : PySem.W.nsIn K mainGlobals "bool" = some none)
    (zb_int : PySem.W.nsIn K mainGlobals "int" = some none)
    (zb_isinstance : PySem.W.nsIn K mainGlobals "isinstance" = some none)
    (zb_len : PySem.W.nsIn K mainGlobals "len" = some none)
    (zb_list : PySem.W.nsIn K mainGlobals "list" = some none)
    (zb_max : PySem.W.nsIn K mainGlobals "max" = some none)
    (zb_min : PySem.W.nsIn K mainGlobals "min" = some none)
    (zb_range : PySem.W.nsIn K mainGlobals "range" = some none)
    (zb_tuple : PySem.W.nsIn K mainGlobals "tuple" = some none)
    (zb_zip : PySem.W.nsIn K mainGlobals "zip" = some none)
    : ∃ T : Txt K mg, T.a_law = f_law ∧ ∀ (s : Shared) (v : Value), BindsTo s T.d_law ⟨[v], []⟩ [("_law_script", v)] := by
  refine ⟨{
    a_BoughError := C_BoughError,
    m_BoughError := PySem.W.mg_of X G ac_BoughError,
    x_BoughError := ⟨⟨_, _, _, _, _, _, _, _, _, _, _, _, _, _, _, xl_BoughError, fun Y => rfl⟩, xe_BoughError, xt_BoughError, xk_BoughError⟩,
    i0_BoughError := xi_BoughError,
    t0_BoughError := xt_BoughError,
    s0_BoughError := xs_BoughError,
    e_BoughError := exm_self xe_BoughError xi_BoughError xt_BoughError xs_BoughError,
    c_BoughError := ⟨g1_BoughError, g2_BoughError, xe_BoughError, g3_BoughError, g4_BoughError, g5_BoughError, g6_BoughError, g7_BoughError⟩,
    h_BoughError := ⟨h1_BoughError, h2_BoughError, h3_BoughError⟩,
    a_Nought := C_Nought,
    m_Nought := PySem.W.mg_of X G ac_Nought,
    x_Nought := ⟨⟨_, _, _, _, _, _, _, _, _, _, _, _, _, _, _, xl_Nought, fun Y => rfl⟩, xe_Nought, xt_Nought, xk_Nought⟩,
    i0_Nought := xi_Nought,
    t0_Nought := xt_Nought,
    s0_Nought := xs_Nought,
    e_Nought := exm_self xe_Nought xi_Nought xt_Nought xs_Nought,
    c_Nought := ⟨g1_Nought, g2_Nought, xe_Nought, g3_Nought, g4_Nought, g5_Nought, g6_Nought, g7_Nought⟩,
    aI_Nought := fI_Nought,
    dI_Nought := _,
    FI_Nought := fun_mk (st := sI_Nought) lI_Nought cI_Nought kI_Nought,
    bI_Nought := (fun_mk (st := sI_Nought) lI_Nought cI_Nought kI_Nought).binds (ps := ["self"]) fun _ _ _ _ _ _ us hl => match us, hl with | [_], _ => rfl,
    i_Nought := iI_Nought,
    t_Nought := tI_Nought,
    v_ValueError := vb_ValueError,
    v_ZeroDivisionError := vb_ZeroDivisionError,
    sNZ := ysNZ,
    sNB := ysNB,
    a_common_part := f_common_part,
    d_common_part := _,
    m_common_part := PySem.W.mg_of X G a_common_part,
    F_common_part := fun_mk (st := s_common_part) l_common_part c_common_part k_common_part,
    b_common_part := (fun_mk (st := s_common_part) l_common_part c_common_part k_common_part).binds (ps := ["one", "other"]) fun _ _ _ _ _ _ us hl => match us, hl with | [_, _], _ => rfl,
    a_fraction_of := f_fraction_of,
    d_fraction_of := _,
    m_fraction_of := PySem.W.mg_of X G a_fraction_of,
    F_fraction_of := (FunD.mk ⟨_, _, _, _, _, _, _, _, _, _, rfl, l_fraction_of, c_fraction_of, .inr ⟨by simp, _, _, [.int 1 dk_fraction_of0], _, rfl, t_fraction_of, rfl, (.cons ⟨_, rfl⟩ .nil)⟩, .inl rfl⟩ k_fraction_of : FunD K "fraction_of" "fraction_of" (defArgs s_fraction_of) (defBody s_fraction_of) (defScope s_fraction_of) [.int 1] [] f_fraction_of _),
    b_fraction_of := binds_all ((FunD.mk ⟨_, _, _, _, _, _, _, _, _, _, rfl, l_fraction_of, c_fraction_of, .inr ⟨by simp, _, _, [.int 1 dk_fraction_of0], _, rfl, t_fraction_of, rfl, (.cons ⟨_, rfl⟩ .nil)⟩, .inl rfl⟩ k_fraction_of : FunD K "fraction_of" "fraction_of" (defArgs s_fraction_of) (defBody s_fraction_of) (defScope s_fraction_of) [.int 1] [] f_fraction_of _).binds1 (ps := ["upper", "lower"]) 2 1 (by simp) rfl fun _ _ _ _ _ _ _ us its hl hi => match us, hl, its, hi with | [_, _], _, [_], _ => ⟨_, rfl, rfl⟩),
    bv_fraction_of1 := (FunD.mk ⟨_, _, _, _, _, _, _, _, _, _, rfl, l_fraction_of, c_fraction_of, .inr ⟨by simp, _, _, [.int 1 dk_fraction_of0], _, rfl, t_fraction_of, rfl, (.cons ⟨_, rfl⟩ .nil)⟩, .inl rfl⟩ k_fraction_of : FunD K "fraction_of" "fraction_of" (defArgs s_fraction_of) (defBody s_fraction_of) (defScope s_fraction_of) [.int 1] [] f_fraction_of _).binds1 (ps := ["upper", "lower"]) 1 0 (by simp) rfl fun _ _ _ _ _ _ _ us its hl hi => match us, hl, its, hi with | [_], _, [_], _ => ⟨_, rfl, rfl⟩,
    a_added := f_added,
    d_added := _,
    m_added := PySem.W.mg_of X G a_added,
    F_added := fun_mk (st := s_added) l_added c_added k_added,
    b_added := (fun_mk (st := s_added) l_added c_added k_added).binds (ps := ["one", "other"]) fun _ _ _ _ _ _ us hl => match us, hl with | [_, _], _ => rfl,
    a_taken_away := f_taken_away,
    d_taken_away := _,
    m_taken_away := PySem.W.mg_of X G a_taken_away,
    F_taken_away := fun_mk (st := s_taken_away) l_taken_away c_taken_away k_taken_away,
    b_taken_away := (fun_mk (st := s_taken_away) l_taken_away c_taken_away k_taken_away).binds (ps := ["one", "other"]) fun _ _ _ _ _ _ us hl => match us, hl with | [_, _], _ => rfl,
    a_multiplied := f_multiplied,
    d_multiplied := _,
    m_multiplied := PySem.W.mg_of X G a_multiplied,
    F_multiplied := fun_mk (st := s_multiplied) l_multiplied c_multiplied k_multiplied,
    b_multiplied := (fun_mk (st := s_multiplied) l_multiplied c_multiplied k_multiplied).binds (ps := ["one", "other"]) fun _ _ _ _ _ _ us hl => match us, hl with | [_, _], _ => rfl,
    a_divided := f_divided,
    d_divided := _,
    m_divided := PySem.W.mg_of X G a_divided,
    F_divided := fun_mk (st := s_divided) l_divided c_divided k_divided,
    b_divided := (fun_mk (st := s_divided) l_divided c_divided k_divided).binds (ps := ["one", "other"]) fun _ _ _ _ _ _ us hl => match us, hl with | [_, _], _ => rfl,
    a_is_less := f_is_less,
    d_is_less := _,
    m_is_less := PySem.W.mg_of X G a_is_less,
    F_is_less := fun_mk (st := s_is_less) l_is_less c_is_less k_is_less,
    b_is_less := (fun_mk (st := s_is_less) l_is_less c_is_less k_is_less).binds (ps := ["one", "other"]) fun _ _ _ _ _ _ us hl => match us, hl with | [_, _], _ => rfl,
    a_law_box := f_law_box,
    d_law_box := _,
    m_law_box := PySem.W.mg_of X G a_law_box,
    F_law_box := fun_mk (st := s_law_box) l_law_box c_law_box k_law_box,
    b_law_box := (fun_mk (st := s_law_box) l_law_box c_law_box k_law_box).binds (ps := ["_law_script", "_law_k"]) fun _ _ _ _ _ _ us hl => match us, hl with | [_, _], _ => rfl,
    a_law_take := f_law_take,
    d_law_take := _,
    m_law_take := PySem.W.mg_of X G a_law_take,
    F_law_take := fun_mk (st := s_law_take) l_law_take c_law_take k_law_take,
    b_law_take := (fun_mk (st := s_law_take) l_law_take c_law_take k_law_take).binds (ps := ["_law_box_here", "_law_many"]) fun _ _ _ _ _ _ us hl => match us, hl with | [_, _], _ => rfl,
    a_law_alike := f_law_alike,
    d_law_alike := _,
    m_law_alike := PySem.W.mg_of X G a_law_alike,
    F_law_alike := fun_mk (st := s_law_alike) l_law_alike c_law_alike k_law_alike,
    b_law_alike := (fun_mk (st := s_law_alike) l_law_alike c_law_alike k_law_alike).binds (ps := ["_law_found", "_law_due"]) fun _ _ _ _ _ _ us hl => match us, hl with | [_, _], _ => rfl,
    a_law_shared := f_law_shared,
    d_law_shared := _,
    m_law_shared := PySem.W.mg_of X G a_law_shared,
    F_law_shared := fun_mk (st := s_law_shared) l_law_shared c_law_shared k_law_shared,
    b_law_shared := (fun_mk (st := s_law_shared) l_law_shared c_law_shared k_law_shared).binds (ps := ["_law_one", "_law_other"]) fun _ _ _ _ _ _ us hl => match us, hl with | [_, _], _ => rfl,
    a_law_lowest := f_law_lowest,
    d_law_lowest := _,
    m_law_lowest := PySem.W.mg_of X G a_law_lowest,
    F_law_lowest := fun_mk (st := s_law_lowest) l_law_lowest c_law_lowest k_law_lowest,
    b_law_lowest := (fun_mk (st := s_law_lowest) l_law_lowest c_law_lowest k_law_lowest).binds (ps := ["_law_upper", "_law_lower"]) fun _ _ _ _ _ _ us hl => match us, hl with | [_, _], _ => rfl,
    a_law_whole := f_law_whole,
    d_law_whole := _,
    m_law_whole := PySem.W.mg_of X G a_law_whole,
    F_law_whole := fun_mk (st := s_law_whole) l_law_whole c_law_whole k_law_whole,
    b_law_whole := (fun_mk (st := s_law_whole) l_law_whole c_law_whole k_law_whole).binds (ps := ["_law_box_here"]) fun _ _ _ _ _ _ us hl => match us, hl with | [_], _ => rfl,
    a_law_made_of := f_law_made_of,
    d_law_made_of := _,
    m_law_made_of := PySem.W.mg_of X G a_law_made_of,
    F_law_made_of := fun_mk (st := s_law_made_of) l_law_made_of c_law_made_of k_law_made_of,
    b_law_made_of := (fun_mk (st := s_law_made_of) l_law_made_of c_law_made_of k_law_made_of).binds (ps := ["_law_upper", "_law_lower"]) fun _ _ _ _ _ _ us hl => match us, hl with | [_, _], _ => rfl,
    a_law_heard := f_law_heard,
    d_law_heard := _,
    m_law_heard := PySem.W.mg_of X G a_law_heard,
    F_law_heard := fun_mk (st := s_law_heard) l_law_heard c_law_heard k_law_heard,
    b_law_heard := (fun_mk (st := s_law_heard) l_law_heard c_law_heard k_law_heard).binds (ps := ["_law_which", "_law_one", "_law_other"]) fun _ _ _ _ _ _ us hl => match us, hl with | [_, _, _], _ => rfl,
    a_law_right := f_law_right,
    d_law_right := _,
    m_law_right := PySem.W.mg_of X G a_law_right,
    F_law_right := fun_mk (st := s_law_right) l_law_right c_law_right k_law_right,
    b_law_right := (fun_mk (st := s_law_right) l_law_right c_law_right k_law_right).binds (ps := ["_law_which", "_law_one", "_law_other", "_law_due"]) fun _ _ _ _ _ _ us hl => match us, hl with | [_, _, _, _], _ => rfl,
    a_law_both := f_law_both,
    d_law_both := _,
    m_law_both := PySem.W.mg_of X G a_law_both,
    F_law_both := fun_mk (st := s_law_both) l_law_both c_law_both k_law_both,
    b_law_both := (fun_mk (st := s_law_both) l_law_both c_law_both k_law_both).binds (ps := ["_law_one", "_law_other"]) fun _ _ _ _ _ _ us hl => match us, hl with | [_, _], _ => rfl,
    a_law := f_law,
    d_law := _,
    m_law := PySem.W.mg_of X G a_law,
    F_law := fun_mk (st := s_law) l_law c_law k_law,
    b_law := (fun_mk (st := s_law) l_law c_law k_law).binds (ps := ["_law_script"]) fun _ _ _ _ _ _ us hl => match us, hl with | [_], _ => rfl,
    z_ValueError := PySem.W.mg_none_of X G zb_ValueError,
    z_ZeroDivisionError := PySem.W.mg_none_of X G zb_ZeroDivisionError,
    z_abs := PySem.W.mg_none_of X G zb_abs,
    z_bool := PySem.W.mg_none_of X G zb_bool,
    z_int := PySem.W.mg_none_of X G zb_int,
    z_isinstance := PySem.W.mg_none_of X G zb_isinstance,
    z_len := PySem.W.mg_none_of X G zb_len,
    z_list := PySem.W.mg_none_of X G zb_list,
    z_max := PySem.W.mg_none_of X G zb_max,
    z_min := PySem.W.mg_none_of X G zb_min,
    z_range := PySem.W.mg_none_of X G zb_range,
    z_tuple := PySem.W.mg_none_of X G zb_tuple,
    z_zip := PySem.W.mg_none_of X G zb_zip }, rfl, fun s v => .of_eq rfl⟩
end Lw
namespace Lw
open PySem PySem.Spec PyProof.Rows L2 Bk
theorem walk {l : PySem.W.OpenLaw} {q : Program} {loose : List Str} {XP : (Str → Option Value) → Heap → Prop} {YP : World → Heap → Prop} {d : DefRec} {K : Params → PySem.W.Frag} (hn : l.most = some 63) (hdf : d.params.defaults = [])
    (hY : ∀ (w : World) (h : Heap), YP w h → (K w.params).In h)
    (F : ∀ (w : World) (mg : Str → Option Value) (fa : Addr) (h : Heap), (K w.params).In h → h.Ns mainGlobals mg → mg d.name = some (.ref fa) →
      ∃ fd : FuncData, (∀ (s : Shared) (u : Value), BindsTo s fd ⟨[u], []⟩ [("_law_script", u)]) ∧ ∀ base : Heap, (K w.params).In base → base.Ns mainGlobals mg → FnOk l.prog w (K w.params) mg base (L2.CX l.prog w) 8 fa fd ["_law_script"] (spLaw (K w.params))) :
    PySem.W.WalkO q loose XP YP l.row.toRowW d [] (fun f vs => PySem.call f vs) :=
  L2.walk_of (n := 63) (k := 8) (x := "_law_script") (CX := fun w => L2.CX l.prog w) (sp := fun w => spLaw (K w.params)) hn (by decide) hdf ⟨rfl, by decide, by decide⟩ hY F (fun _ _ a ns hl hO hS => spLaw_of hO hS hl) fun _ _ _ _ _ z => cx_false z
theorem fin {P : Program} {w : World} {K : PySem.W.Frag} {mg : Str → Option Value} {fa f : Addr} (hmg : mg "law" = some (.ref fa)) (z : ∃ T : Txt K mg, T.a_law = f ∧ ∀ (s : Shared) (v : Value), BindsTo s T.d_law ⟨[v], []⟩ [("_law_script", v)]) :
    ∃ fd : FuncData, (∀ (s : Shared) (u : Value), BindsTo s fd ⟨[u], []⟩ [("_law_script", u)]) ∧ ∀ base : Heap, K.In base → base.Ns mainGlobals mg → FnOk P w K mg base (L2.CX P w) 8 fa fd ["_law_script"] (spLaw K) := by
  obtain ⟨T, ea, hb⟩ := z
  refine ⟨T.d_law, hb, fun base _ _ => ?_⟩
  have e := hmg.symm.trans T.m_law
  cases e
  exact ok_law T
end Lw
open PySem PySem.W PyProof.Rows
set_option maxRecDepth 100000 in
set_option maxHeartbeats 0 in
theorem PySem.Challenge.cw_boughkept_k01_fractions_reckoned_holds : PySem.Challenge.rw_boughkept_k01_fractions_reckoned.Holds := by
  w_on; o_law; k_head; (case hw => w_witness2)
  k_fill
  refine Lw.walk (l := PySem.Challenge.rw_boughkept_k01_fractions_reckoned) rfl rfl (fun w h Y => PySem.W.kIn_of Y) ?F
  case F =>
    intro w mg fa h KX G hmg
    refine' Lw.fin hmg (Lw.mk_txt KX G ?ac_BoughError ?xl_BoughError ?xe_BoughError ?xt_BoughError ?xk_BoughError ?xi_BoughError ?xs_BoughError ?g1_BoughError ?g2_BoughError ?g3_BoughError ?g4_BoughError ?g5_BoughError ?g6_BoughError ?g7_BoughError ?h1_BoughError ?h2_BoughError ?h3_BoughError ?ac_Nought ?xl_Nought ?xe_Nought ?xt_Nought ?xk_Nought ?xi_Nought ?xs_Nought ?g1_Nought ?g2_Nought ?g3_Nought ?g4_Nought ?g5_Nought ?g6_Nought ?g7_Nought ?iI_Nought ?tI_Nought ?lI_Nought ?cI_Nought ?kI_Nought ?vb_ValueError ?vb_ZeroDivisionError ?ysNZ ?ysNB ?a_common_part ?l_common_part ?c_common_part ?k_common_part ?a_fraction_of ?l_fraction_of ?c_fraction_of ?k_fraction_of ?t_fraction_of ?a_added ?l_added ?c_added ?k_added ?a_taken_away ?l_taken_away ?c_taken_away ?k_taken_away ?a_multiplied ?l_multiplied ?c_multiplied ?k_multiplied ?a_divided ?l_divided ?c_divided ?k_divided ?a_is_less ?l_is_less ?c_is_less ?k_is_less ?a_law_box ?l_law_box ?c_law_box ?k_law_box ?a_law_take ?l_law_take ?c_law_take ?k_law_take ?a_law_alike ?l_law_alike ?c_law_alike ?k_law_alike ?a_law_shared ?l_law_shared ?c_law_shared ?k_law_shared ?a_law_lowest ?l_law_lowest ?c_law_lowest ?k_law_lowest ?a_law_whole ?l_law_whole ?c_law_whole ?k_law_whole ?a_law_made_of ?l_law_made_of ?c_law_made_of ?k_law_made_of ?a_law_heard ?l_law_heard ?c_law_heard ?k_law_heard ?a_law_right ?l_law_right ?c_law_right ?k_law_right ?a_law_both ?l_law_both ?c_law_both ?k_law_both ?a_law ?l_law ?c_law ?k_law ?zb_ValueError ?zb_ZeroDivisionError ?zb_abs ?zb_bool ?zb_int ?zb_isinstance ?zb_len ?zb_list ?zb_max ?zb_min ?zb_range ?zb_tuple ?zb_zip)
    (case ac_BoughError => k_is)
    (case xl_BoughError => k_is)
    (case xe_BoughError => k_is)
    (case xt_BoughError => k_is)
    (case xk_BoughError => k_is)
    (case xi_BoughError => k_is)
    (case xs_BoughError => k_is)
    (case g1_BoughError => k_is)
    (case g2_BoughError => k_is)
    (case g3_BoughError => k_is)
    (case g4_BoughError => k_is)
    (case g5_BoughError => k_is)
    (case g6_BoughError => k_is)
    (case g7_BoughError => k_is)
    (case h1_BoughError => k_is)
    (case h2_BoughError => k_is)
    (case h3_BoughError => k_is)
    (case ac_Nought => k_is)
    (case xl_Nought => k_is)
    (case xe_Nought => k_is)
    (case xt_Nought => k_is)
    (case xk_Nought => k_is)
    (case xi_Nought => k_is)
    (case xs_Nought => k_is)
    (case g1_Nought => k_is)
    (case g2_Nought => k_is)
    (case g3_Nought => k_is)
    (case g4_Nought => k_is)
    (case g5_Nought => k_is)
    (case g6_Nought => k_is)
    (case g7_Nought => k_is)
    (case iI_Nought => k_is)
    (case tI_Nought => k_is)
    (case lI_Nought => k_is)
    (case cI_Nought => k_is)
    (case kI_Nought => k_is)
    (case vb_ValueError => k_is)
    (case vb_ZeroDivisionError => k_is)
    (case ysNZ => k_is)
    (case ysNB => k_is)
    (case a_common_part => k_is)
    (case l_common_part => k_is)
    (case c_common_part => k_is)
    (case k_common_part => k_is)
    (case a_fraction_of => k_is)
    (case l_fraction_of => k_is)
    (case c_fraction_of => k_is)
    (case k_fraction_of => k_is)
    (case t_fraction_of => k_is)
    (case a_added => k_is)
    (case l_added => k_is)
    (case c_added => k_is)
    (case k_added => k_is)
    (case a_taken_away => k_is)
    (case l_taken_away => k_is)
    (case c_taken_away => k_is)
    (case k_taken_away => k_is)
    (case a_multiplied => k_is)
    (case l_multiplied => k_is)
    (case c_multiplied => k_is)
    (case k_multiplied => k_is)
    (case a_divided => k_is)
    (case l_divided => k_is)
    (case c_divided => k_is)
    (case k_divided => k_is)
    (case a_is_less => k_is)
    (case l_is_less => k_is)
    (case c_is_less => k_is)
    (case k_is_less => k_is)
    (case a_law_box => k_is)
    (case l_law_box => k_is)
    (case c_law_box => k_is)
    (case k_law_box => k_is)
    (case a_law_take => k_is)
    (case l_law_take => k_is)
    (case c_law_take => k_is)
    (case k_law_take => k_is)
    (case a_law_alike => k_is)
    (case l_law_alike => k_is)
    (case c_law_alike => k_is)
    (case k_law_alike => k_is)
    (case a_law_shared => k_is)
    (case l_law_shared => k_is)
    (case c_law_shared => k_is)
    (case k_law_shared => k_is)
    (case a_law_lowest => k_is)
    (case l_law_lowest => k_is)
    (case c_law_lowest => k_is)
    (case k_law_lowest => k_is)
    (case a_law_whole => k_is)
    (case l_law_whole => k_is)
    (case c_law_whole => k_is)
    (case k_law_whole => k_is)
    (case a_law_made_of => k_is)
    (case l_law_made_of => k_is)
    (case c_law_made_of => k_is)
    (case k_law_made_of => k_is)
    (case a_law_heard => k_is)
    (case l_law_heard => k_is)
    (case c_law_heard => k_is)
    (case k_law_heard => k_is)
    (case a_law_right => k_is)
    (case l_law_right => k_is)
    (case c_law_right => k_is)
    (case k_law_right => k_is)
    (case a_law_both => k_is)
    (case l_law_both => k_is)
    (case c_law_both => k_is)
    (case k_law_both => k_is)
    (case a_law => k_is)
    (case l_law => k_is)
    (case c_law => k_is)
    (case k_law => k_is)
    (case zb_ValueError => k_is)
    (case zb_ZeroDivisionError => k_is)
    (case zb_abs => k_is)
    (case zb_bool => k_is)
    (case zb_int => k_is)
    (case zb_isinstance => k_is)
    (case zb_len => k_is)
    (case zb_list => k_is)
    (case zb_max => k_is)
    (case zb_min => k_is)
    (case zb_range => k_is)
    (case zb_tuple => k_is)
    (case zb_zip => k_is)
#print axioms PySem.Challenge.cw_boughkept_k01_fractions_reckoned_holds
