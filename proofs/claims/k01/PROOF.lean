import PyProof.Rows.All
import HandS.ForMost
import HandS.ForExc
import HandS.IsInst
import HandS.TupAny
import HandS.TupMul
import KE.DataEq
import KE.DataCmp
import KE.DataMinMax
import KE.SortData
import KE.DataIsa
import HandS.Zip
import HandS.Defaults
import HandS.WordsDict
import HandS.Head0
import HandS.Head1
import HandS.Head2
import HandS.HeadEnd
import HandS.HeadHook1
import HandS.HeadHook2
import PySem.Challenge.RW_codecast_k01_not_tasks
set_option Elab.async false
set_option linter.all false
set_option maxRecDepth 100000
set_option maxHeartbeats 4000000
namespace Q
open PySem PySem.Spec PyProof.Rows L2

/-- a value as the pure layer sees it: data, an own (fresh, mutable) list, an opaque thing -/
inductive D where
  | d (x : PyData)
  | own (xs : List PyData)
  | r (v : V)
/-- a slot -/
inductive S where
  | no
  | d (x : PyData)
  | own (xs : List PyData)
  | r (v : V)
@[reducible] def D.s : D → S
  | .d x => .d x
  | .own xs => .own xs
  | .r v => .r v

/-- F (frozen), M (the world's part) lie in H -/
structure Hw {Ω : Type} (W : Ω → Hp → Prop) (ω : Ω) (F M H : Hp) : Prop where
  fh : ∀ a o, F a = some o → H a = some o
  mh : ∀ a o, M a = some o → H a = some o
  fm : ∀ a o, F a = some o → M a = none
  w : W ω M
/-- from (H, F, M) to (H', F', M'): all but the world's part is kept -/
structure Ex (H F M H' F' M' : Hp) : Prop where
  keep : ∀ a o, H a = some o → M a = none → H' a = some o
  f0 : ∀ a o, F a = some o → F' a = some o
  nf : ∀ a o, F' a = some o → F a = some o ∨ H a = none
  nm : ∀ a o, M' a = some o → M a ≠ none ∨ H a = none
  al : ∀ a, H' a = none → H a = none
theorem Ex.refl (H F M : Hp) : Ex H F M H F M := ⟨fun _ _ h _ => h, fun _ _ h => h, fun _ _ h => .inl h, fun a o h => .inl (by rw [h]; simp), fun _ h => h⟩
theorem Ex.mnone {H F M H' F' M' : Hp} (x : Ex H F M H' F' M') {a : Addr} {o : HO} (h : H a = some o) (m : M a = none) : M' a = none := by
  cases e : M' a with
  | none => rfl
  | some u =>
    rcases x.nm a u e with z | z
    · exact absurd m z
    · rw [h] at z; cases z
theorem Ex.fnone {H F M H' F' M' : Hp} (x : Ex H F M H' F' M') {a : Addr} {o : HO} (h : H a = some o) (m : F a = none) : F' a = none := by
  cases e : F' a with
  | none => rfl
  | some u =>
    rcases x.nf a u e with z | z
    · rw [m] at z; cases z
    · rw [h] at z; cases z
theorem Ex.trans {H F M H1 F1 M1 H2 F2 M2 : Hp} (x : Ex H F M H1 F1 M1) (y : Ex H1 F1 M1 H2 F2 M2) : Ex H F M H2 F2 M2 where
  keep := fun a o h m => y.keep a o (x.keep a o h m) (x.mnone h m)
  f0 := fun a o h => y.f0 a o (x.f0 a o h)
  nf := fun a o h => by
    rcases y.nf a o h with z | z
    · exact x.nf a o z
    · exact .inr (x.al a z)
  nm := fun a o h => by
    rcases y.nm a o h with z | z
    · cases e : M1 a with
      | none => exact absurd e z
      | some u => exact x.nm a u e
    · exact .inr (x.al a z)
  al := fun a h => x.al a (y.al a h)
/-- a new frozen object -/
theorem alloc {Ω : Type} {W : Ω → Hp → Prop} {ω : Ω} {F M H : Hp} {p : Addr} {o : HO} (h : Hw W ω F M H) (n : H p = none) : Hw W ω (upd F p o) M (upd H p o) ∧ Ex H F M (upd H p o) (upd F p o) M := by
  have nM : M p = none := by
    cases e : M p with
    | none => rfl
    | some u => rw [h.mh p u e] at n; cases n
  refine ⟨⟨fun a u e => ?_, fun a u e => ?_, fun a u e => ?_, h.w⟩, ⟨fun a u e _ => ?_, fun a u e => ?_, fun a u e => ?_, fun a u e => .inl (by rw [e]; simp), fun a e => ?_⟩⟩
  · by_cases z : a = p
    · subst z; rw [upd_same] at e ⊢; exact e
    · rw [upd_ne z] at e ⊢; exact h.fh a u e
  · by_cases z : a = p
    · subst z; rw [nM] at e; cases e
    · rw [upd_ne z]; exact h.mh a u e
  · by_cases z : a = p
    · subst z; exact nM
    · rw [upd_ne z] at e; exact h.fm a u e
  · by_cases z : a = p
    · subst z; rw [n] at e; cases e
    · rw [upd_ne z]; exact e
  · by_cases z : a = p
    · subst z; rw [h.fh a u e] at n; cases n
    · rw [upd_ne z]; exact e
  · by_cases z : a = p
    · subst z; exact .inr n
    · rw [upd_ne z] at e; exact .inl e
  · by_cases z : a = p
    · subst z; exact n
    · rw [upd_ne z] at e; exact e
/-- a new own object: neither frozen nor the world's -/
theorem allocO {Ω : Type} {W : Ω → Hp → Prop} {ω : Ω} {F M H : Hp} {p : Addr} {o : HO} (h : Hw W ω F M H) (n : H p = none) : Hw W ω F M (upd H p o) ∧ Ex H F M (upd H p o) F M ∧ F p = none ∧ M p = none := by
  have nM : M p = none := by
    cases e : M p with
    | none => rfl
    | some u => rw [h.mh p u e] at n; cases n
  have nF : F p = none := by
    cases e : F p with
    | none => rfl
    | some u => rw [h.fh p u e] at n; cases n
  refine ⟨⟨fun a u e => ?_, fun a u e => ?_, h.fm, h.w⟩, ⟨fun a u e _ => ?_, fun a u e => e, fun a u e => .inl e, fun a u e => .inl (by rw [e]; simp), fun a e => ?_⟩, nF, nM⟩
  · by_cases z : a = p
    · subst z; rw [nF] at e; cases e
    · rw [upd_ne z]; exact h.fh a u e
  · by_cases z : a = p
    · subst z; rw [nM] at e; cases e
    · rw [upd_ne z]; exact h.mh a u e
  · by_cases z : a = p
    · subst z; rw [n] at e; cases e
    · rw [upd_ne z]; exact e
  · by_cases z : a = p
    · subst z; exact n
    · rw [upd_ne z] at e; exact e

/-! ### data in the frozen part -/
mutual
/-- v is the data x, by the objects of F -/
inductive Rp (F : Hp) : V → PyData → Prop
  | non : Rp F .non .none
  | bl (b : Bool) : Rp F (.bl b) (.bool b)
  | int (i : Int) : Rp F (.int i) (.int i)
  | str (x : Str) : Rp F (.str x) (.str x)
  | lst {a : Addr} {vs : List V} {xs : List PyData} : F a = some (.lst vs) → vs.length ≤ 1000000 → Rps F vs xs → Rp F (.ref a) (.list xs)
  | tup {a : Addr} {vs : List V} {xs : List PyData} : F a = some (.tup vs) → vs.length ≤ 1000000 → Rps F vs xs → Rp F (.ref a) (.tuple xs)
inductive Rps (F : Hp) : List V → List PyData → Prop
  | nil : Rps F [] []
  | cons {v : V} {vs : List V} {x : PyData} {xs : List PyData} : Rp F v x → Rps F vs xs → Rps F (v :: vs) (x :: xs)
end
mutual
theorem rp_sub {F F' : Hp} (s : ∀ a o, F a = some o → F' a = some o) : ∀ {x : PyData} {v : V}, Rp F v x → Rp F' v x
  | .none, _, h => by cases h; exact .non
  | .bool b, _, h => by cases h; exact .bl b
  | .int i, _, h => by cases h; exact .int i
  | .str z, _, h => by cases h; exact .str z
  | .list xs, _, h => by cases h with | lst a l b => exact .lst (s _ _ a) l (rps_sub s b)
  | .tuple xs, _, h => by cases h with | tup a l b => exact .tup (s _ _ a) l (rps_sub s b)
  | .dict _, _, h => by cases h
theorem rps_sub {F F' : Hp} (s : ∀ a o, F a = some o → F' a = some o) : ∀ {xs : List PyData} {vs : List V}, Rps F vs xs → Rps F' vs xs
  | [], _, h => by cases h; exact .nil
  | _ :: _, _, h => by cases h with | cons a b => exact .cons (rp_sub s a) (rps_sub s b)
end
mutual
theorem rp_dp {K : PySem.W.Frag} {F : Hp} : ∀ {x : PyData} {v : V}, Rp F v x → Dp K F v x
  | .none, _, h => by cases h; exact .non
  | .bool b, _, h => by cases h; exact .bl b
  | .int i, _, h => by cases h; exact .int i
  | .str z, _, h => by cases h; exact .str z
  | .list xs, _, h => by cases h with | lst a l b => exact .lst (SqL.of a) (rps_dp b)
  | .tuple xs, _, h => by cases h with | tup a l b => exact .tup (SqT.of a) (rps_dp b)
  | .dict _, _, h => by cases h
theorem rps_dp {K : PySem.W.Frag} {F : Hp} : ∀ {xs : List PyData} {vs : List V}, Rps F vs xs → DpAll K F vs xs
  | [], _, h => by cases h; exact .nil
  | _ :: _, _, h => by cases h with | cons a b => exact .cons (rp_dp a) (rps_dp b)
end
mutual
theorem rp_plain {F : Hp} : ∀ {x : PyData} {v : V}, Rp F v x → x.plain = true
  | .none, _, h => by simp [PyData.plain]
  | .bool b, _, h => by simp [PyData.plain]
  | .int i, _, h => by simp [PyData.plain]
  | .str z, _, h => by simp [PyData.plain]
  | .list xs, _, h => by cases h with | lst a l b => simp only [PyData.plain]; exact rps_plain b
  | .tuple xs, _, h => by cases h with | tup a l b => simp only [PyData.plain]; exact rps_plain b
  | .dict _, _, h => by cases h
theorem rps_plain {F : Hp} : ∀ {xs : List PyData} {vs : List V}, Rps F vs xs → PyData.plainAll xs = true
  | [], _, h => by simp [PyData.plainAll]
  | _ :: _, _, h => by cases h with | cons a b => simp only [PyData.plainAll, Bool.and_eq_true]; exact ⟨rp_plain a, rps_plain b⟩
end
theorem rps_len {F : Hp} : ∀ {xs : List PyData} {vs : List V}, Rps F vs xs → vs.length = xs.length
  | [], _, h => by cases h; rfl
  | _ :: _, _, h => by cases h with | cons a b => simp [rps_len b]
theorem rps_get {F : Hp} : ∀ {xs : List PyData} {vs : List V} {i : Nat} {x : PyData}, Rps F vs xs → xs[i]? = some x → ∃ v, vs[i]? = some v ∧ Rp F v x
  | [], _, _, _, h, e => by simp at e
  | _ :: _, _, 0, _, h, e => by cases h with | cons a b => simp at e; subst e; exact ⟨_, rfl, a⟩
  | _ :: _, _, i + 1, _, h, e => by cases h with | cons a b => simpa using rps_get b (by simpa using e)
theorem rps_get' {F : Hp} : ∀ {xs : List PyData} {vs : List V} {i : Nat} {v : V}, Rps F vs xs → vs[i]? = some v → ∃ x, xs[i]? = some x ∧ Rp F v x
  | [], _, _, _, h, e => by cases h; simp at e
  | _ :: _, _, 0, _, h, e => by cases h with | cons a b => simp at e; subst e; exact ⟨_, rfl, a⟩
  | _ :: _, _, i + 1, _, h, e => by cases h with | cons a b => simpa using rps_get' b (by simpa using e)
theorem rps_app {F : Hp} : ∀ {xs ys : List PyData} {vs us : List V}, Rps F vs xs → Rps F us ys → Rps F (vs ++ us) (xs ++ ys)
  | [], _, _, _, h, g => by cases h; exact g
  | _ :: _, _, _, _, h, g => by cases h with | cons a b => exact .cons a (rps_app b g)
theorem rps_take {F : Hp} : ∀ {xs : List PyData} {vs : List V} (n : Nat), Rps F vs xs → Rps F (vs.take n) (xs.take n)
  | _, _, 0, _ => .nil
  | [], _, _ + 1, h => by cases h; exact .nil
  | _ :: _, _, n + 1, h => by cases h with | cons a b => exact .cons a (rps_take n b)
theorem rps_drop {F : Hp} : ∀ {xs : List PyData} {vs : List V} (n : Nat), Rps F vs xs → Rps F (vs.drop n) (xs.drop n)
  | _, _, 0, h => h
  | [], _, _ + 1, h => by cases h; exact .nil
  | _ :: _, _, n + 1, h => by cases h with | cons a b => exact rps_drop n b

/-- v is the value d; H0: the heap ahead of the expression -/
def RD (H0 F M H : Hp) : V → D → Prop
  | v, .d x => Rp F v x
  | v, .r u => v = u
  | v, .own xs => ∃ p vs, v = .ref p ∧ H0 p = none ∧ F p = none ∧ M p = none ∧ H p = some (.lst vs) ∧ vs.length ≤ 1000000 ∧ Rps F vs xs
theorem RD.step {H0 F M H F' M' H' : Hp} {v : V} {d : D} (x : Ex H F M H' F' M') (h : RD H0 F M H v d) : RD H0 F' M' H' v d := by
  cases d with
  | d y => exact rp_sub x.f0 h
  | r u => exact h
  | own xs =>
    obtain ⟨p, vs, e, h0, f, m, hp, l, a⟩ := h
    exact ⟨p, vs, e, h0, x.fnone hp f, x.mnone hp m, x.keep _ _ hp m, l, rps_sub x.f0 a⟩
theorem RD.back {H0 H1 F M H : Hp} {v : V} {d : D} (x : ∀ a, H1 a = none → H0 a = none) (h : RD H1 F M H v d) : RD H0 F M H v d := by
  cases d with
  | d y => exact h
  | r u => exact h
  | own xs =>
    obtain ⟨p, vs, e, h0, q⟩ := h
    exact ⟨p, vs, e, x p h0, q⟩

def SlotOk (F M H : Hp) : S → Option V → Prop
  | .no, _ => True
  | .d x, ov => ∃ v, ov = some v ∧ Rp F v x
  | .r u, ov => ov = some u
  | .own xs, ov => ∃ p vs, ov = some (.ref p) ∧ F p = none ∧ M p = none ∧ H p = some (.lst vs) ∧ vs.length ≤ 1000000 ∧ Rps F vs xs
theorem SlotOk.step {F M H F' M' H' : Hp} {s : S} {ov : Option V} (x : Ex H F M H' F' M') (h : SlotOk F M H s ov) : SlotOk F' M' H' s ov := by
  cases s with
  | no => trivial
  | d y =>
    obtain ⟨v, e, h⟩ := h
    exact ⟨v, e, rp_sub x.f0 h⟩
  | r u => exact h
  | own xs =>
    obtain ⟨p, vs, e, f, m, hp, l, a⟩ := h
    exact ⟨p, vs, e, x.fnone hp f, x.mnone hp m, x.keep _ _ hp m, l, rps_sub x.f0 a⟩

/-- the slots, the world and the heap fit together -/
structure J {Ω : Type} (W : Ω → Hp → Prop) (env : List S) (ω : Ω) (F M : Hp) (σ : L2.St) (H : Hp) : Prop where
  hw : Hw W ω F M H
  sl : ∀ (i : Nat) s, env[i]? = some s → ∃ ov, σ[i]? = some ov ∧ SlotOk F M H s ov
  di : ∀ (i j : Nat) xs ys p, i ≠ j → env[i]? = some (.own xs) → env[j]? = some (.own ys) → σ[i]? = some (some (.ref p)) → σ[j]? = some (some (.ref p)) → False
theorem J.step {Ω : Type} {W : Ω → Hp → Prop} {env : List S} {ω ω' : Ω} {F M F' M' H H' : Hp} {σ : L2.St} (j : J W env ω F M σ H) (h : Hw W ω' F' M' H') (x : Ex H F M H' F' M') : J W env ω' F' M' σ H' :=
  ⟨h, fun i s e => let ⟨ov, e1, q⟩ := j.sl i s e; ⟨ov, e1, q.step x⟩, j.di⟩

/-! ### the readings of the pure layer, as readings of HandS -/
abbrev XD (Ω : Type) := Nat → Ω → Prop
abbrev QD (Ω : Type) := D → Ω → Prop
abbrev TD (Ω : Type) := XD Ω → List S → Ω → QD Ω → Prop
abbrev TDb (Ω : Type) := XD Ω → List S → Ω → (Bool → Ω → Prop) → Prop
abbrev TDa (Ω : Type) := XD Ω → List S → Ω → (List D → Ω → Prop) → Prop
/-- the exceptions' classes by number; what is wanted of exceptions -/
structure Cxx where
  cx : Nat → Value
  wx : XK
section
variable {Ω : Type} (W : Ω → Hp → Prop) (C : Cxx)
/-- exceptions told by Ec, made from (H, F, M) on, are taken -/
def XOk (Ec : XD Ω) (H F M : Hp) : Prop := ∀ c ω' H' F' M', Ec c ω' → Hw W ω' F' M' H' → Ex H F M H' F' M' → C.wx (C.cx c) none H'
def tOf (T : TD Ω) : TE := fun σ H Q => ∃ (env : List S) (ω : Ω) (F M : Hp) (Ec : XD Ω) (Qc : QD Ω), J W env ω F M σ H ∧ T Ec env ω Qc ∧ XOk W C Ec H F M ∧
  ∀ d ω' v H' F' M', Qc d ω' → Hw W ω' F' M' H' → Ex H F M H' F' M' → RD H F' M' H' v d → Q v H'
def bOf (T : TDb Ω) : TT := fun σ H Q => ∃ (env : List S) (ω : Ω) (F M : Hp) (Ec : XD Ω) (Qc : Bool → Ω → Prop), J W env ω F M σ H ∧ T Ec env ω Qc ∧ XOk W C Ec H F M ∧
  ∀ b ω' H' F' M', Qc b ω' → Hw W ω' F' M' H' → Ex H F M H' F' M' → Q b H'
def RDs (H0 F M H : Hp) : List V → List D → Prop := Paired (RD H0 F M H)
def aOf (T : TDa Ω) : TA := fun σ H Q => ∃ (env : List S) (ω : Ω) (F M : Hp) (Ec : XD Ω) (Qc : List D → Ω → Prop), J W env ω F M σ H ∧ T Ec env ω Qc ∧ XOk W C Ec H F M ∧
  ∀ ds ω' vs H' F' M', Qc ds ω' → Hw W ω' F' M' H' → Ex H F M H' F' M' → RDs H F' M' H' vs ds → Q vs H'
end
section
variable {Ω : Type} {W : Ω → Hp → Prop} {C : Cxx}
theorem XOk.step {Ec : XD Ω} {H F M H' F' M' : Hp} (x : XOk W C Ec H F M) (e : Ex H F M H' F' M') : XOk W C Ec H' F' M' := fun c ω' H2 F2 M2 a b d => x c ω' H2 F2 M2 a b (e.trans d)
theorem pe_imp {X : Cx} {e : Expr} {t t' : TE} (h : PE X e t) (i : ∀ σ H Q, t' σ H Q → t σ H Q) : PE X e t' := ⟨fun pins s σ H Q I q => h.run pins s σ H Q I (i σ H Q q)⟩
theorem pt_imp {X : Cx} {e : Expr} {t t' : TT} (h : PT X e t) (i : ∀ σ H Q, t' σ H Q → t σ H Q) : PT X e t' := ⟨fun pins s σ H Q I q => h.run pins s σ H Q I (i σ H Q q)⟩
theorem pa_imp {X : Cx} {e : List Expr} {t t' : TA} (h : PA X e t) (i : ∀ σ H Q, t' σ H Q → t σ H Q) : PA X e t' := ⟨fun pos pins s σ H Q I q => h.run pos pins s σ H Q I (i σ H Q q)⟩
theorem ps_imp {X : Cx} {e : Stmt} {t t' : TS} (h : PS X e t) (i : ∀ D σ H, t' D σ H → t D σ H) : PS X e t' := ⟨fun pins s σ H D I q => h.run pins s σ H D I (i D σ H q)⟩
theorem pss_imp {X : Cx} {e : List Stmt} {t t' : TS} (h : PSs X e t) (i : ∀ D σ H, t' D σ H → t D σ H) : PSs X e t' := ⟨fun pins s σ H D I q => h.run pins s σ H D I (i D σ H q)⟩
end
end Q
namespace Q
open PySem PySem.Spec PyProof.Rows L2

/-! ### data operators, as HandS rules over what reads as data -/
section
variable {X : Cx}
theorem rp_reads {pins : List (Addr × Obj)} {σ : L2.St} {H : Hp} {s : Shared} (I : Inv X pins σ H s) {x : V} {v : Value} {d : PyData} (h : Rp H x d) (r : RelV x v) : ∃ as, Reads s.heap v d as := Dp.reads I d x v (rp_dp h) r
theorem rps_reads {pins : List (Addr × Obj)} {σ : L2.St} {H : Hp} {s : Shared} (I : Inv X pins σ H s) {xs : List V} {vs : List Value} {ds : List PyData} (h : Rps H xs ds) (r : Vals xs vs) : ∃ as, ReadsAll s.heap vs ds as := Dp.readsAll I ds xs vs (rps_dp h) r
def rData2 (c : PyData → PyData → Prop) (g : PyData → PyData → Bool) : R2 := fun x y H Q => ∃ d e, Rp H x d ∧ Rp H y e ∧ c d e ∧ Q (.bl (g d e)) H
abbrev cEq (d e : PyData) : Prop := min d.depth e.depth ≤ 60
theorem op_eqP (hu : X.A.units + 64 < cLine) : OpR X (compareOp .Eq) (rData2 cEq PyData.eqv) := by
  intro pins s σ H x y v u Q I rx ry h
  obtain ⟨d, e, hd, he, c, q⟩ := h
  obtain ⟨as, r1⟩ := rp_reads I hd rx
  obtain ⟨bs, r2⟩ := rp_reads I he ry
  exact PySem.SeqAt.eq_plain r1 r2 (rp_plain hd) (rp_plain he) (by simp only [cEq] at c; omega) ⟨.bl _, H, I, rfl, q⟩
theorem op_neP (hu : X.A.units + 64 < cLine) : OpR X (compareOp .NotEq) (rData2 cEq fun d e => !PyData.eqv d e) := by
  intro pins s σ H x y v u Q I rx ry h
  obtain ⟨d, e, hd, he, c, q⟩ := h
  obtain ⟨as, r1⟩ := rp_reads I hd rx
  obtain ⟨bs, r2⟩ := rp_reads I he ry
  exact PySem.SeqAt.ne_plain r1 r2 (rp_plain hd) (rp_plain he) (by simp only [cEq] at c; omega) ⟨.bl _, H, I, rfl, q⟩
abbrev cLt (d e : PyData) : Prop := PySem.W.alike d e = true ∧ d ≠ .none ∧ min d.depth e.depth ≤ 60
theorem op_ltP (hu : X.A.units + 64 < cLine) : OpR X (compareOp .Lt) (rData2 cLt PySem.W.dataLt) := by
  intro pins s σ H x y v u Q I rx ry h
  obtain ⟨d, e, hd, he, ⟨c1, c2, c3⟩, q⟩ := h
  obtain ⟨as, r1⟩ := rp_reads I hd rx
  obtain ⟨bs, r2⟩ := rp_reads I he ry
  exact PySem.W.lt_data r1 r2 c1 c2 (by omega) ⟨.bl _, H, I, rfl, q⟩
theorem op_gtP (hu : X.A.units + 64 < cLine) : OpR X (compareOp .Gt) (rData2 cLt fun d e => PySem.W.dataLt e d) := by
  intro pins s σ H x y v u Q I rx ry h
  obtain ⟨d, e, hd, he, ⟨c1, c2, c3⟩, q⟩ := h
  obtain ⟨as, r1⟩ := rp_reads I hd rx
  obtain ⟨bs, r2⟩ := rp_reads I he ry
  exact PySem.W.gt_data r1 r2 c1 c2 (by omega) ⟨.bl _, H, I, rfl, q⟩
theorem op_leP (hu : X.A.units + 64 < cLine) : OpR X (compareOp .LtE) (rData2 cLt fun d e => !PySem.W.dataLt e d) := by
  intro pins s σ H x y v u Q I rx ry h
  obtain ⟨d, e, hd, he, ⟨c1, c2, c3⟩, q⟩ := h
  obtain ⟨as, r1⟩ := rp_reads I hd rx
  obtain ⟨bs, r2⟩ := rp_reads I he ry
  exact PySem.W.le_data r1 r2 c1 c2 (by omega) ⟨.bl _, H, I, rfl, q⟩
theorem op_geP (hu : X.A.units + 64 < cLine) : OpR X (compareOp .GtE) (rData2 cLt fun d e => !PySem.W.dataLt d e) := by
  intro pins s σ H x y v u Q I rx ry h
  obtain ⟨d, e, hd, he, ⟨c1, c2, c3⟩, q⟩ := h
  obtain ⟨as, r1⟩ := rp_reads I hd rx
  obtain ⟨bs, r2⟩ := rp_reads I he ry
  exact PySem.W.ge_data r1 r2 c1 c2 (by omega) ⟨.bl _, H, I, rfl, q⟩
/-- x in xs -/
def memD (d : PyData) (xs : List PyData) : Bool := xs.any fun z => PyData.eqv z d
def rInP (neg : Bool) : R2 := fun x y H Q => ∃ d xs, Rp H x d ∧ (Rp H y (.list xs) ∨ Rp H y (.tuple xs)) ∧ min (PyData.depthAll xs) d.depth ≤ 60 ∧ Q (.bl (if neg then !memD d xs else memD d xs)) H
theorem op_inP (hu : X.A.units + 64 < cLine) : OpR X (compareOp .In) (rInP false) := by
  intro pins s σ H x y v u Q I rx ry h
  obtain ⟨d, xs, hd, he, c, q⟩ := h
  obtain ⟨as, r1⟩ := rp_reads I hd rx
  rcases he with he | he
  · obtain ⟨bs, r2⟩ := rp_reads I he ry
    have p := rp_plain he
    simp only [PyData.plain] at p
    exact PySem.SeqAt.in_list_data r2 r1 p (rp_plain hd) (by omega) ⟨.bl _, H, I, rfl, q⟩
  · obtain ⟨bs, r2⟩ := rp_reads I he ry
    have p := rp_plain he
    simp only [PyData.plain] at p
    exact PySem.SeqAt.in_tuple_data r2 r1 p (rp_plain hd) (by omega) ⟨.bl _, H, I, rfl, q⟩
theorem op_notinP (hu : X.A.units + 64 < cLine) : OpR X (compareOp .NotIn) (rInP true) := by
  intro pins s σ H x y v u Q I rx ry h
  obtain ⟨d, xs, hd, he, c, q⟩ := h
  obtain ⟨as, r1⟩ := rp_reads I hd rx
  rcases he with he | he
  · obtain ⟨bs, r2⟩ := rp_reads I he ry
    have p := rp_plain he
    simp only [PyData.plain] at p
    exact PySem.SeqAt.notIn_list_data r2 r1 p (rp_plain hd) (by omega) ⟨.bl _, H, I, rfl, q⟩
  · obtain ⟨bs, r2⟩ := rp_reads I he ry
    have p := rp_plain he
    simp only [PyData.plain] at p
    exact PySem.SeqAt.notIn_tuple_data r2 r1 p (rp_plain hd) (by omega) ⟨.bl _, H, I, rfl, q⟩
/-- isinstance -/
inductive Ty where | int | bool | tuple | str | list
  deriving DecidableEq
@[reducible] def Ty.nm : Ty → String
  | .int => "int" | .bool => "bool" | .tuple => "tuple" | .str => "str" | .list => "list"
def isaT : Ty → PyData → Bool
  | .int, .int _ => true
  | .int, .bool _ => true
  | .bool, .bool _ => true
  | .tuple, .tuple _ => true
  | .str, .str _ => true
  | .list, .list _ => true
  | _, _ => false
theorem call_isiP (T : Ty) : CallR X (.builtin "isinstance") (fun xs H Q => ∃ x d, xs = [x, .ty T.nm] ∧ Rp H x d ∧ Q (.bl (isaT T d)) H) := by
  intro pins s σ H xs us Q I r h
  obtain ⟨x, d, rfl, hd, q⟩ := h
  obtain ⟨u, w', rfl, r1, r2⟩ := vals2 r
  cases r2
  obtain ⟨as, rr⟩ := rp_reads I hd r1
  cases T with
  | int =>
    have e : d.isInt = isaT .int d := by cases d <;> rfl
    exact PySem.W.isinstance_int_data rr fun tk _ => ⟨.bl _, H, I.tok tk, rfl, by rw [e]; exact q⟩
  | bool =>
    have e : d.isBool = isaT .bool d := by cases d <;> rfl
    exact PySem.W.isinstance_bool_data rr fun tk _ => ⟨.bl _, H, I.tok tk, rfl, by rw [e]; exact q⟩
  | tuple =>
    have e : d.isTuple = isaT .tuple d := by cases d <;> rfl
    exact PySem.W.isinstance_tuple_data rr fun tk _ => ⟨.bl _, H, I.tok tk, rfl, by rw [e]; exact q⟩
  | str =>
    have e : d.isStr = isaT .str d := by cases d <;> rfl
    exact PySem.W.isinstance_str_data rr fun tk _ => ⟨.bl _, H, I.tok tk, rfl, by rw [e]; exact q⟩
  | list =>
    have e : d.isList = isaT .list d := by cases d <;> rfl
    exact PySem.W.isinstance_list_data rr fun tk _ => ⟨.bl _, H, I.tok tk, rfl, by rw [e]; exact q⟩
/-- sorted(list of alike data) -/
theorem each_of : ∀ {vs : List V} {us : List Value} {ds : List PyData} {H : Hp} {F : Hp}, Vals vs us → Rps F vs ds → PySem.W.EachIs (fun u d => ∃ v, RelV v u ∧ Rp F v d) us ds
  | [], _, _, _, _, r, h => by cases r; cases h; exact .nil
  | _ :: _, _, _, H, _, r, h => by
    cases r with
    | cons r1 r2 =>
      cases h with
      | cons a b => exact .cons ⟨_, r1, a⟩ (each_of (H := H) r2 b)
theorem each_back : ∀ {us : List Value} {ds : List PyData} {F : Hp}, PySem.W.EachIs (fun u d => ∃ v, RelV v u ∧ Rp F v d) us ds → ∃ vs, Vals vs us ∧ Rps F vs ds
  | [], _, _, h => by cases h; exact ⟨[], .nil, .nil⟩
  | _ :: _, _, _, h => by
    cases h with
    | cons a b =>
      obtain ⟨v, r, p⟩ := a
      obtain ⟨vs, r2, p2⟩ := each_back b
      exact ⟨v :: vs, .cons r r2, .cons p p2⟩
end
end Q
namespace Q
open PySem PySem.Spec PyProof.Rows L2

/-! ### the operators over pure values -/
inductive Op2 where
  | add | addO | sub | mul | mod | fdiv | band | bxor | eq | ne | lt | le | gt | ge | isin | notin | ix
  deriving DecidableEq
inductive Op1 where
  | neg | inv
  deriving DecidableEq
/-- what a two-place operator gives -/
def p2 : Op2 → D → D → (D → Prop) → Prop
  | .add, .d (.int i), .d (.int j), Q => Q (.d (.int (i + j)))
  | .add, .d (.tuple xs), .d (.tuple ys), Q => xs.length + ys.length ≤ 1000000 ∧ Q (.d (.tuple (xs ++ ys)))
  | .add, .d (.list xs), .d (.list ys), Q => xs.length + ys.length ≤ 1000000 ∧ Q (.d (.list (xs ++ ys)))
  | .add, .d (.str s), .d (.str t), Q => s.length + t.length ≤ 1000000 ∧ Q (.d (.str (s ++ t)))
  | .addO, .d (.list xs), .d (.list ys), Q => xs.length + ys.length ≤ 1000000 ∧ Q (.own (xs ++ ys))
  | .sub, .d (.int i), .d (.int j), Q => Q (.d (.int (i - j)))
  | .mul, .d (.int i), .d (.int j), Q => CMul i j ∧ Q (.d (.int (i * j)))
  | .mul, .d (.tuple xs), .d (.int k), Q => xs ≠ [] ∧ 2 ≤ k ∧ k ≤ 1000 ∧ xs.length ≤ 1000 ∧ Q (.d (.tuple (List.replicate k.toNat xs).flatten))
  | .mul, .d (.list xs), .d (.int k), Q => 0 ≤ k ∧ k ≤ 1000 ∧ xs.length ≤ 1000 ∧ Q (.d (.list (List.replicate k.toNat xs).flatten))
  | .mod, .d (.int i), .d (.int j), Q => 0 < j ∧ Q (.d (.int (i % j)))
  | .fdiv, .d (.int i), .d (.int j), Q => (0 < j ∧ j < 1073741824) ∧ Q (.d (.int (i / j)))
  | .band, .d (.int i), .d (.int j), Q => Q (.d (.int (Builtin.bitAnd i j)))
  | .bxor, .d (.int i), .d (.int j), Q => Q (.d (.int (Builtin.bitXor i j)))
  | .eq, .d x, .d y, Q => cEq x y ∧ Q (.d (.bool (PyData.eqv x y)))
  | .ne, .d x, .d y, Q => cEq x y ∧ Q (.d (.bool (!PyData.eqv x y)))
  | .lt, .d (.int i), .d (.int j), Q => Q (.d (.bool (decide (i < j))))
  | .le, .d (.int i), .d (.int j), Q => Q (.d (.bool (decide (i ≤ j))))
  | .gt, .d (.int i), .d (.int j), Q => Q (.d (.bool (decide (j < i))))
  | .ge, .d (.int i), .d (.int j), Q => Q (.d (.bool (decide (j ≤ i))))
  | .lt, .d x, .d y, Q => cLt x y ∧ Q (.d (.bool (PySem.W.dataLt x y)))
  | .isin, .d x, .d (.list xs), Q => min (PyData.depthAll xs) x.depth ≤ 60 ∧ Q (.d (.bool (memD x xs)))
  | .isin, .d x, .d (.tuple xs), Q => min (PyData.depthAll xs) x.depth ≤ 60 ∧ Q (.d (.bool (memD x xs)))
  | .notin, .d x, .d (.list xs), Q => min (PyData.depthAll xs) x.depth ≤ 60 ∧ Q (.d (.bool (!memD x xs)))
  | .notin, .d x, .d (.tuple xs), Q => min (PyData.depthAll xs) x.depth ≤ 60 ∧ Q (.d (.bool (!memD x xs)))
  | .ix, .d (.list xs), .d (.int i), Q => ∃ x, atI xs i = some x ∧ Q (.d x)
  | .ix, .d (.tuple xs), .d (.int i), Q => ∃ x, atI xs i = some x ∧ Q (.d x)
  | _, _, _, _ => False
def p1 : Op1 → D → (D → Prop) → Prop
  | .neg, .d (.int i), Q => Q (.d (.int (-i)))
  | .inv, .d (.int i), Q => Q (.d (.int (Builtin.bitNot i)))
  | _, _, _ => False
/-- truth -/
def pTru : D → (Bool → Prop) → Prop
  | .d .none, Q => Q false
  | .d (.bool b), Q => Q b
  | .d (.int i), Q => Q (i != 0)
  | .d (.list xs), Q => Q (!xs.isEmpty)
  | .d (.tuple xs), Q => Q (!xs.isEmpty)
  | _, _ => False

section
variable {Ω : Type} {W : Ω → Hp → Prop} {X : Cx}
/-- a value-level rule serves a pure operator -/
def Lift2 (W : Ω → Hp → Prop) (r : R2) (p : D → D → (D → Prop) → Prop) : Prop :=
  ∀ (x y : V) (a b : D) (H0 H F M : Hp) (ω : Ω) (Qc : D → Prop) (Q : VK), Hw W ω F M H → RD H0 F M H x a → RD H0 F M H y b → p a b Qc →
    (∀ d v H' F' M', Qc d → Hw W ω F' M' H' → Ex H F M H' F' M' → RD H F' M' H' v d → Q v H') → r x y H Q
theorem big_ok {n : Nat} (h : n ≤ 1000000) : n ≤ sizeLine := by rw [sizeLine_eq]; omega
theorem fin0 {ω : Ω} {F M H H0 : Hp} {Qc : D → Prop} {Q : VK} (hw : Hw W ω F M H) (k : ∀ d v H' F' M', Qc d → Hw W ω F' M' H' → Ex H F M H' F' M' → RD H F' M' H' v d → Q v H') {x : PyData} {v : V} (q : Qc (.d x)) (r : Rp F v x) : Q v H :=
  k _ _ _ _ _ q hw (Ex.refl H F M) r
theorem finT {ω : Ω} {F M H : Hp} {Qc : D → Prop} {Q : VK} (hw : Hw W ω F M H) (k : ∀ d v H' F' M', Qc d → Hw W ω F' M' H' → Ex H F M H' F' M' → RD H F' M' H' v d → Q v H') {xs : List PyData} {vs : List V} {p : Addr} (n : H p = none) (q : Qc (.d (.tuple xs))) (l : xs.length ≤ 1000000) (r : Rps F vs xs) : Q (.ref p) (upd H p (.tup vs)) := by
  obtain ⟨h1, h2⟩ := alloc (o := .tup vs) hw n
  exact k _ _ _ _ _ q h1 h2 (Rp.tup upd_same (by rw [rps_len r]; exact l) (rps_sub h2.f0 r))
theorem finL {ω : Ω} {F M H : Hp} {Qc : D → Prop} {Q : VK} (hw : Hw W ω F M H) (k : ∀ d v H' F' M', Qc d → Hw W ω F' M' H' → Ex H F M H' F' M' → RD H F' M' H' v d → Q v H') {xs : List PyData} {vs : List V} {p : Addr} (n : H p = none) (q : Qc (.d (.list xs))) (l : xs.length ≤ 1000000) (r : Rps F vs xs) : Q (.ref p) (upd H p (.lst vs)) := by
  obtain ⟨h1, h2⟩ := alloc (o := .lst vs) hw n
  exact k _ _ _ _ _ q h1 h2 (Rp.lst upd_same (by rw [rps_len r]; exact l) (rps_sub h2.f0 r))
theorem finO {ω : Ω} {F M H : Hp} {Qc : D → Prop} {Q : VK} (hw : Hw W ω F M H) (k : ∀ d v H' F' M', Qc d → Hw W ω F' M' H' → Ex H F M H' F' M' → RD H F' M' H' v d → Q v H') {xs : List PyData} {vs : List V} {p : Addr} (n : H p = none) (q : Qc (.own xs)) (l : xs.length ≤ 1000000) (r : Rps F vs xs) : Q (.ref p) (upd H p (.lst vs)) := by
  obtain ⟨h1, h2, f, m⟩ := allocO (o := .lst vs) hw n
  exact k _ _ _ _ _ q h1 h2 ⟨p, vs, rfl, n, f, m, upd_same, by rw [rps_len r]; exact l, r⟩
theorem rp_int {F : Hp} {v : V} {i : Int} (h : Rp F v (.int i)) : v = .int i := by cases h; rfl
theorem rp_str {F : Hp} {v : V} {i : Str} (h : Rp F v (.str i)) : v = .str i := by cases h; rfl
theorem rp_bl {F : Hp} {v : V} {i : Bool} (h : Rp F v (.bool i)) : v = .bl i := by cases h; rfl
theorem rp_tup {F : Hp} {v : V} {xs : List PyData} (h : Rp F v (.tuple xs)) : ∃ a vs, v = .ref a ∧ F a = some (.tup vs) ∧ xs.length ≤ 1000000 ∧ Rps F vs xs := by cases h with | tup a l b => exact ⟨_, _, rfl, a, by rw [← rps_len b]; exact l, b⟩
theorem rp_lst {F : Hp} {v : V} {xs : List PyData} (h : Rp F v (.list xs)) : ∃ a vs, v = .ref a ∧ F a = some (.lst vs) ∧ xs.length ≤ 1000000 ∧ Rps F vs xs := by cases h with | lst a l b => exact ⟨_, _, rfl, a, by rw [← rps_len b]; exact l, b⟩
theorem rps_nil {F : Hp} {vs : List V} {xs : List PyData} (h : Rps F vs xs) : vs = [] ↔ xs = [] := by cases h <;> simp
theorem rps_rep {F : Hp} {vs : List V} {xs : List PyData} (h : Rps F vs xs) : ∀ k : Nat, Rps F (List.replicate k vs).flatten (List.replicate k xs).flatten
  | 0 => .nil
  | k + 1 => by rw [List.replicate_succ, List.replicate_succ, List.flatten_cons, List.flatten_cons]; exact rps_app h (rps_rep h k)
def rAddAll (K : PySem.W.Frag) : R2 := fun x y H Q => rI0 (fun i j => .int (i + j)) x y H Q ∨ (rCatA K x y H Q ∨ (rCat x y H Q ∨ (∃ i j, x = .str i ∧ y = .str j ∧ i.length + j.length ≤ sizeLine ∧ Q (.str (i ++ j)) H)))
theorem op_addAll : OpR X (binaryOp .Add) (rAddAll X.K) := op_add.or (op_catA.or (op_cat.or op_add_str))
theorem lift_add (K : PySem.W.Frag) : Lift2 W (rAddAll K) (p2 .add) := by
  intro x y a b H0 H F M ω Qc Q hw ra rb h k
  unfold p2 at h
  split at h <;> try first | exact h.elim | contradiction
  all_goals rename_i e; try cases e
  · cases rp_int ra; cases rp_int rb
    exact .inl ⟨_, _, rfl, rfl, fin0 (H0 := H0) hw k h (.int _)⟩
  · obtain ⟨hl, q⟩ := h
    obtain ⟨a, vs, rfl, fa, la, pa⟩ := rp_tup ra
    obtain ⟨b, us, rfl, fb, lb, pb⟩ := rp_tup rb
    refine .inr (.inl ⟨a, b, vs, us, rfl, rfl, SqT.of (hw.fh _ _ fa), SqT.of (hw.fh _ _ fb), by rw [rps_len pa, rps_len pb]; exact big_ok hl, fun e => ?_, fun e1 e2 => ?_, fun _ _ p n => finT hw k n q (by rw [List.length_append]; exact hl) (rps_app pa pb)⟩)
    · rw [(rps_nil pa).mp e, List.nil_append] at q
      exact fin0 (H0 := H0) hw k q (.tup fb (by rw [rps_len pb]; exact lb) pb)
    · rw [(rps_nil pb).mp e2, List.append_nil] at q
      exact fin0 (H0 := H0) hw k q (.tup fa (by rw [rps_len pa]; exact la) pa)
  · obtain ⟨hl, q⟩ := h
    obtain ⟨a, vs, rfl, fa, la, pa⟩ := rp_lst ra
    obtain ⟨b, us, rfl, fb, lb, pb⟩ := rp_lst rb
    exact .inr (.inr (.inl ⟨a, b, vs, us, rfl, rfl, hw.fh _ _ fa, hw.fh _ _ fb, by rw [rps_len pa, rps_len pb]; exact big_ok hl, fun p n => finL hw k n q (by rw [List.length_append]; exact hl) (rps_app pa pb)⟩))
  · obtain ⟨hl, q⟩ := h
    cases rp_str ra; cases rp_str rb
    exact .inr (.inr (.inr ⟨_, _, rfl, rfl, big_ok hl, fin0 (H0 := H0) hw k q (.str _)⟩))
end
end Q
namespace Q
open PySem PySem.Spec PyProof.Rows L2
section
variable {Ω : Type} {W : Ω → Hp → Prop} {X : Cx}
theorem lift_addO (K : PySem.W.Frag) : Lift2 W (rAddAll K) (p2 .addO) := by
  intro x y a b H0 H F M ω Qc Q hw ra rb h k
  unfold p2 at h
  split at h <;> try first | exact h.elim | contradiction
  all_goals rename_i e; try cases e
  obtain ⟨hl, q⟩ := h
  obtain ⟨a, vs, rfl, fa, la, pa⟩ := rp_lst ra
  obtain ⟨b, us, rfl, fb, lb, pb⟩ := rp_lst rb
  exact .inr (.inr (.inl ⟨a, b, vs, us, rfl, rfl, hw.fh _ _ fa, hw.fh _ _ fb, by rw [rps_len pa, rps_len pb]; exact big_ok hl, fun p n => finO hw k n q (by rw [List.length_append]; exact hl) (rps_app pa pb)⟩))
theorem lift_sub : Lift2 W (rI0 fun i j => .int (i - j)) (p2 .sub) := by
  intro x y a b H0 H F M ω Qc Q hw ra rb h k
  unfold p2 at h
  split at h <;> try first | exact h.elim | contradiction
  all_goals rename_i e; try cases e
  cases rp_int ra; cases rp_int rb
  exact ⟨_, _, rfl, rfl, fin0 (H0 := H0) hw k h (.int _)⟩
theorem lift_band : Lift2 W (rI0 fun i j => .int (Builtin.bitAnd i j)) (p2 .band) := by
  intro x y a b H0 H F M ω Qc Q hw ra rb h k
  unfold p2 at h
  split at h <;> try first | exact h.elim | contradiction
  all_goals rename_i e; try cases e
  cases rp_int ra; cases rp_int rb
  exact ⟨_, _, rfl, rfl, fin0 (H0 := H0) hw k h (.int _)⟩
theorem lift_bxor : Lift2 W (rI0 fun i j => .int (Builtin.bitXor i j)) (p2 .bxor) := by
  intro x y a b H0 H F M ω Qc Q hw ra rb h k
  unfold p2 at h
  split at h <;> try first | exact h.elim | contradiction
  all_goals rename_i e; try cases e
  cases rp_int ra; cases rp_int rb
  exact ⟨_, _, rfl, rfl, fin0 (H0 := H0) hw k h (.int _)⟩
theorem lift_mod : Lift2 W (rI (fun _ j => 0 < j) fun i j => .int (i % j)) (p2 .mod) := by
  intro x y a b H0 H F M ω Qc Q hw ra rb h k
  unfold p2 at h
  split at h <;> try first | exact h.elim | contradiction
  all_goals rename_i e; try cases e
  cases rp_int ra; cases rp_int rb
  exact ⟨_, _, rfl, rfl, h.1, fin0 (H0 := H0) hw k h.2 (.int _)⟩
theorem lift_fdiv : Lift2 W (rI CDiv fun i j => .int (i / j)) (p2 .fdiv) := by
  intro x y a b H0 H F M ω Qc Q hw ra rb h k
  unfold p2 at h
  split at h <;> try first | exact h.elim | contradiction
  all_goals rename_i e; try cases e
  cases rp_int ra; cases rp_int rb
  exact ⟨_, _, rfl, rfl, h.1, fin0 (H0 := H0) hw k h.2 (.int _)⟩
theorem rep_len {xs : List PyData} {k : Nat} (h : xs.length ≤ 1000) (hk : k ≤ 1000) : (List.replicate k xs).flatten.length ≤ 1000000 := by
  rw [List.length_flatten, List.map_replicate, List.sum_replicate_nat]
  exact Nat.mul_le_mul hk h
def rMulAll (K : PySem.W.Frag) : R2 := fun x y H Q => rI CMul (fun i j => .int (i * j)) x y H Q ∨ (rRepT K x y H Q ∨ rRep x y H Q)
theorem op_mulAll : OpR X (binaryOp .Mult) (rMulAll X.K) := op_mul.or (op_repT.or op_rep)
theorem lift_mul (K : PySem.W.Frag) : Lift2 W (rMulAll K) (p2 .mul) := by
  intro x y a b H0 H F M ω Qc Q hw ra rb h k
  unfold p2 at h
  split at h <;> try first | exact h.elim | contradiction
  all_goals rename_i e; try cases e
  · cases rp_int ra; cases rp_int rb
    exact .inl ⟨_, _, rfl, rfl, h.1, fin0 (H0 := H0) hw k h.2 (.int _)⟩
  · obtain ⟨h1, h2, h3, h4, q⟩ := h
    obtain ⟨a, vs, rfl, fa, la, pa⟩ := rp_tup ra
    cases rp_int rb
    exact .inr (.inl ⟨a, _, vs, rfl, rfl, SqT.of (hw.fh _ _ fa), fun z => h1 ((rps_nil pa).mp z), h2, h3, by rw [rps_len pa]; exact h4, fun p n => finT hw k n q (rep_len h4 (by omega)) (rps_rep pa _)⟩)
  · obtain ⟨h1, h3, h4, q⟩ := h
    obtain ⟨a, vs, rfl, fa, la, pa⟩ := rp_lst ra
    cases rp_int rb
    rename_i xs kk
    refine .inr (.inr ⟨a, _, vs, rfl, rfl, hw.fh _ _ fa, by omega, by omega, ?_, fun p n => finL hw k n q (rep_len h4 (by omega)) (rps_rep pa _)⟩)
    rw [rps_len pa, sizeLine_eq]
    have z : kk.toNat ≤ 1000 := by omega
    calc xs.length * kk.toNat ≤ 1000 * 1000 := Nat.mul_le_mul h4 z
      _ ≤ 16777216 := by decide
theorem lift_data {op : Op2} {c : PyData → PyData → Prop} {g : PyData → PyData → Bool} (hp : ∀ a b Q, p2 op a b Q → ∃ x y, a = .d x ∧ b = .d y ∧ c x y ∧ Q (.d (.bool (g x y)))) : Lift2 W (rData2 c g) (p2 op) := by
  intro x y a b H0 H F M ω Qc Q hw ra rb h k
  obtain ⟨d, e, rfl, rfl, hc, q⟩ := hp a b _ h
  exact ⟨d, e, rp_sub hw.fh ra, rp_sub hw.fh rb, hc, fin0 (H0 := H0) hw k q (.bl _)⟩
theorem lift_eq : Lift2 W (rData2 cEq PyData.eqv) (p2 .eq) := lift_data fun a b Q h => by
  unfold p2 at h
  split at h <;> try first | exact h.elim | contradiction
  all_goals rename_i e; try cases e
  exact ⟨_, _, rfl, rfl, h⟩
theorem lift_ne : Lift2 W (rData2 cEq fun d e => !PyData.eqv d e) (p2 .ne) := lift_data fun a b Q h => by
  unfold p2 at h
  split at h <;> try first | exact h.elim | contradiction
  all_goals rename_i e; try cases e
  exact ⟨_, _, rfl, rfl, h⟩
theorem cLt_int (i j : Int) : cLt (.int i) (.int j) := ⟨by simp [PySem.W.alike], by simp, by simp [PyData.depth]⟩
theorem lift_lt : Lift2 W (rData2 cLt PySem.W.dataLt) (p2 .lt) := lift_data fun a b Q h => by
  unfold p2 at h
  split at h <;> try first | exact h.elim | contradiction
  all_goals rename_i e; try cases e
  · exact ⟨_, _, rfl, rfl, cLt_int _ _, by rw [PySem.W.dataLt_int]; exact h⟩
  · exact ⟨_, _, rfl, rfl, h⟩
theorem lift_gt : Lift2 W (rData2 cLt fun d e => PySem.W.dataLt e d) (p2 .gt) := lift_data fun a b Q h => by
  unfold p2 at h
  split at h <;> try first | exact h.elim | contradiction
  all_goals rename_i e; try cases e
  exact ⟨_, _, rfl, rfl, cLt_int _ _, by rw [PySem.W.dataLt_int]; exact h⟩
theorem lift_le : Lift2 W (rData2 cLt fun d e => !PySem.W.dataLt e d) (p2 .le) := lift_data fun a b Q h => by
  unfold p2 at h
  split at h <;> try first | exact h.elim | contradiction
  all_goals rename_i e; try cases e
  refine ⟨_, _, rfl, rfl, cLt_int _ _, ?_⟩
  rw [PySem.W.dataLt_int, PySem.W.cmp_not_lt]; exact h
theorem lift_ge : Lift2 W (rData2 cLt fun d e => !PySem.W.dataLt d e) (p2 .ge) := lift_data fun a b Q h => by
  unfold p2 at h
  split at h <;> try first | exact h.elim | contradiction
  all_goals rename_i e; try cases e
  refine ⟨_, _, rfl, rfl, cLt_int _ _, ?_⟩
  rw [PySem.W.dataLt_int, PySem.W.cmp_not_lt]; exact h
theorem lift_in : Lift2 W (rInP false) (p2 .isin) := by
  intro x y a b H0 H F M ω Qc Q hw ra rb h k
  unfold p2 at h
  split at h <;> try first | exact h.elim | contradiction
  all_goals rename_i e; try cases e
  · exact ⟨_, _, rp_sub hw.fh ra, .inl (rp_sub hw.fh rb), h.1, fin0 (H0 := H0) hw k h.2 (.bl _)⟩
  · exact ⟨_, _, rp_sub hw.fh ra, .inr (rp_sub hw.fh rb), h.1, fin0 (H0 := H0) hw k h.2 (.bl _)⟩
theorem lift_notin : Lift2 W (rInP true) (p2 .notin) := by
  intro x y a b H0 H F M ω Qc Q hw ra rb h k
  unfold p2 at h
  split at h <;> try first | exact h.elim | contradiction
  all_goals rename_i e; try cases e
  · exact ⟨_, _, rp_sub hw.fh ra, .inl (rp_sub hw.fh rb), h.1, fin0 (H0 := H0) hw k h.2 (.bl _)⟩
  · exact ⟨_, _, rp_sub hw.fh ra, .inr (rp_sub hw.fh rb), h.1, fin0 (H0 := H0) hw k h.2 (.bl _)⟩
theorem rps_at {F : Hp} {vs : List V} {xs : List PyData} {i : Int} {x : PyData} (r : Rps F vs xs) (h : atI xs i = some x) : ∃ v, atI vs i = some v ∧ Rp F v x := by
  unfold atI at h ⊢
  rw [rps_len r]
  cases e : ixN xs.length i with
  | none => rw [e] at h; cases h
  | some j =>
    rw [e] at h
    exact rps_get r h
theorem lift_ix (K : PySem.W.Frag) : Lift2 W (rIx K) (p2 .ix) := by
  intro x y a b H0 H F M ω Qc Q hw ra rb h k
  unfold p2 at h
  split at h <;> try first | exact h.elim | contradiction
  all_goals rename_i e; try cases e
  · obtain ⟨z, hz, q⟩ := h
    obtain ⟨a, vs, rfl, fa, la, pa⟩ := rp_lst ra
    cases rp_int rb
    obtain ⟨v, hv, pv⟩ := rps_at pa hz
    exact .inl ⟨a, vs, _, v, rfl, rfl, SqL.of (hw.fh _ _ fa), hv, fin0 (H0 := H0) hw k q pv⟩
  · obtain ⟨z, hz, q⟩ := h
    obtain ⟨a, vs, rfl, fa, la, pa⟩ := rp_tup ra
    cases rp_int rb
    obtain ⟨v, hv, pv⟩ := rps_at pa hz
    exact .inr (.inl ⟨a, vs, _, v, rfl, rfl, SqT.of (hw.fh _ _ fa), hv, fin0 (H0 := H0) hw k q pv⟩)
/-! which operator of the language it is -/
@[reducible] def Op2.bin : Op2 → Option Operator
  | .add => some .Add | .addO => some .Add | .sub => some .Sub | .mul => some .Mult | .mod => some .Mod | .fdiv => some .FloorDiv | .band => some .BitAnd | .bxor => some .BitXor
  | _ => none
@[reducible] def Op2.cmp : Op2 → Option CmpOp
  | .eq => some .Eq | .ne => some .NotEq | .lt => some .Lt | .le => some .LtE | .gt => some .Gt | .ge => some .GtE | .isin => some .In | .notin => some .NotIn
  | _ => none
theorem op_bin (W : Ω → Hp → Prop) (X : Cx) : ∀ {o : Op2} {op : Operator}, o.bin = some op → ∃ r, OpR X (binaryOp op) r ∧ Lift2 W r (p2 o)
  | .add, _, e => by cases e; exact ⟨_, op_addAll, lift_add _⟩
  | .addO, _, e => by cases e; exact ⟨_, op_addAll, lift_addO _⟩
  | .sub, _, e => by cases e; exact ⟨_, op_sub, lift_sub⟩
  | .mul, _, e => by cases e; exact ⟨_, op_mulAll, lift_mul _⟩
  | .mod, _, e => by cases e; exact ⟨_, op_mod, lift_mod⟩
  | .fdiv, _, e => by cases e; exact ⟨_, op_fdiv, lift_fdiv⟩
  | .band, _, e => by cases e; exact ⟨_, op_and, lift_band⟩
  | .bxor, _, e => by cases e; exact ⟨_, op_xor, lift_bxor⟩
theorem op_cmp (W : Ω → Hp → Prop) (X : Cx) (hu : X.A.units + 64 < cLine) : ∀ {o : Op2} {op : CmpOp}, o.cmp = some op → ∃ r, OpR X (compareOp op) r ∧ Lift2 W r (p2 o)
  | .eq, _, e => by cases e; exact ⟨_, op_eqP hu, lift_eq⟩
  | .ne, _, e => by cases e; exact ⟨_, op_neP hu, lift_ne⟩
  | .lt, _, e => by cases e; exact ⟨_, op_ltP hu, lift_lt⟩
  | .le, _, e => by cases e; exact ⟨_, op_leP hu, lift_le⟩
  | .gt, _, e => by cases e; exact ⟨_, op_gtP hu, lift_gt⟩
  | .ge, _, e => by cases e; exact ⟨_, op_geP hu, lift_ge⟩
  | .isin, _, e => by cases e; exact ⟨_, op_inP hu, lift_in⟩
  | .notin, _, e => by cases e; exact ⟨_, op_notinP hu, lift_notin⟩
end
end Q
namespace Q
open PySem PySem.Spec PyProof.Rows L2

/-! ### built-in functions over pure values -/
inductive Blt where
  | len | tup | lst | all | srt | min | min2 | max2
  deriving DecidableEq
def tru : PyData → Bool
  | .bool b => b
  | _ => false
def isB : PyData → Bool
  | .bool _ => true
  | _ => false
def dle (a b : PyData) : Bool := !PySem.W.dataLt b a
def pB : Blt → List D → (D → Prop) → Prop
  | .len, [.d (.list xs)], Q => Q (.d (.int xs.length))
  | .len, [.d (.tuple xs)], Q => Q (.d (.int xs.length))
  | .len, [.d (.str z)], Q => z.length ≤ 1000000 ∧ Q (.d (.int z.length))
  | .tup, [.d (.list xs)], Q => Q (.d (.tuple xs))
  | .tup, [.d (.tuple xs)], Q => Q (.d (.tuple xs))
  | .lst, [.d (.list xs)], Q => Q (.d (.list xs))
  | .lst, [.d (.tuple xs)], Q => Q (.d (.list xs))
  | .all, [.d (.list xs)], Q => xs.all isB = true ∧ Q (.d (.bool (xs.all tru)))
  | .srt, [.d (.list xs)], Q => PySem.W.AllAlike xs ∧ PySem.W.Sortable xs ∧ (∀ x, x ∈ xs → x.depth ≤ 50) ∧ Q (.d (.list (xs.mergeSort dle)))
  | .min, [.d (.list (x :: xs))], Q => PySem.W.AlikeAll (x :: xs) ∧ PyData.depthAll (x :: xs) ≤ 50 ∧ Q (.d (PySem.W.minD x xs))
  | .min2, [.d (.int i), .d (.int j)], Q => Q (.d (.int (if j < i then j else i)))
  | .max2, [.d (.int i), .d (.int j)], Q => Q (.d (.int (if j > i then j else i)))
  | _, _, _ => False
section
variable {Ω : Type} {W : Ω → Hp → Prop} {X : Cx}
def LiftN (W : Ω → Hp → Prop) (r : List V → Hp → VK → Prop) (p : List D → (D → Prop) → Prop) : Prop :=
  ∀ (vs : List V) (ds : List D) (H0 H F M : Hp) (ω : Ω) (Qc : D → Prop) (Q : VK), Hw W ω F M H → RDs H0 F M H vs ds → p ds Qc →
    (∀ d v H' F' M', Qc d → Hw W ω F' M' H' → Ex H F M H' F' M' → RD H F' M' H' v d → Q v H') → r vs H Q
theorem rds1 {H0 F M H : Hp} {vs : List V} {a : D} (h : RDs H0 F M H vs [a]) : ∃ v, vs = [v] ∧ RD H0 F M H v a := by
  cases h with
  | cons r t => cases t; exact ⟨_, rfl, r⟩
theorem rds2 {H0 F M H : Hp} {vs : List V} {a b : D} (h : RDs H0 F M H vs [a, b]) : ∃ v u, vs = [v, u] ∧ RD H0 F M H v a ∧ RD H0 F M H u b := by
  cases h with
  | cons r t =>
    cases t with
    | cons r2 t2 => cases t2; exact ⟨_, _, rfl, r, r2⟩
def rLenAll (K : PySem.W.Frag) : List V → Hp → VK → Prop := fun xs H Q => (∃ p ys, xs = [.ref p] ∧ (SqL K H p ys ∨ SqT K H p ys) ∧ Q (.int ys.length) H) ∨ (∃ z, xs = [.str z] ∧ z.length ≤ sizeLine ∧ Q (.int z.length) H)
theorem call_lenAll : CallR X (.builtin "len") (rLenAll X.K) := call_len_seq.or call_len_str
theorem lift_len (K : PySem.W.Frag) : LiftN W (rLenAll K) (pB .len) := by
  intro vs ds H0 H F M ω Qc Q hw ra h k
  unfold pB at h
  split at h <;> try first | exact h.elim | contradiction
  all_goals rename_i e; try cases e
  · obtain ⟨v, rfl, r⟩ := rds1 ra
    obtain ⟨a, us, rfl, fa, la, pa⟩ := rp_lst r
    exact .inl ⟨a, us, rfl, .inl (SqL.of (hw.fh _ _ fa)), fin0 (H0 := H0) hw k h (by rw [rps_len pa]; exact .int _)⟩
  · obtain ⟨v, rfl, r⟩ := rds1 ra
    obtain ⟨a, us, rfl, fa, la, pa⟩ := rp_tup r
    exact .inl ⟨a, us, rfl, .inr (SqT.of (hw.fh _ _ fa)), fin0 (H0 := H0) hw k h (by rw [rps_len pa]; exact .int _)⟩
  · obtain ⟨v, rfl, r⟩ := rds1 ra
    cases rp_str r
    exact .inr ⟨_, rfl, big_ok h.1, fin0 (H0 := H0) hw k h.2 (.int _)⟩
theorem lift_tup (K : PySem.W.Frag) : LiftN W (fun xs H Q => ∃ p ys, xs = [.ref p] ∧ ((SqL K H p ys ∧ ∀ l, H l = none → Q (.ref l) (upd H l (.tup ys))) ∨ (SqT K H p ys ∧ Q (.ref p) H))) (pB .tup) := by
  intro vs ds H0 H F M ω Qc Q hw ra h k
  unfold pB at h
  split at h <;> try first | exact h.elim | contradiction
  all_goals rename_i e; try cases e
  · obtain ⟨v, rfl, r⟩ := rds1 ra
    obtain ⟨a, us, rfl, fa, la, pa⟩ := rp_lst r
    exact ⟨a, us, rfl, .inl ⟨SqL.of (hw.fh _ _ fa), fun l n => finT hw k n h la pa⟩⟩
  · obtain ⟨v, rfl, r⟩ := rds1 ra
    obtain ⟨a, us, rfl, fa, la, pa⟩ := rp_tup r
    exact ⟨a, us, rfl, .inr ⟨SqT.of (hw.fh _ _ fa), fin0 (H0 := H0) hw k h (.tup fa (by rw [rps_len pa]; exact la) pa)⟩⟩
theorem lift_lst (K : PySem.W.Frag) : LiftN W (fun xs H Q => ∃ p ys, xs = [.ref p] ∧ (SqL K H p ys ∨ SqT K H p ys) ∧ ∀ l, H l = none → Q (.ref l) (upd H l (.lst ys))) (pB .lst) := by
  intro vs ds H0 H F M ω Qc Q hw ra h k
  unfold pB at h
  split at h <;> try first | exact h.elim | contradiction
  all_goals rename_i e; try cases e
  · obtain ⟨v, rfl, r⟩ := rds1 ra
    obtain ⟨a, us, rfl, fa, la, pa⟩ := rp_lst r
    exact ⟨a, us, rfl, .inl (SqL.of (hw.fh _ _ fa)), fun l n => finL hw k n h la pa⟩
  · obtain ⟨v, rfl, r⟩ := rds1 ra
    obtain ⟨a, us, rfl, fa, la, pa⟩ := rp_tup r
    exact ⟨a, us, rfl, .inr (SqT.of (hw.fh _ _ fa)), fun l n => finL hw k n h la pa⟩
theorem rps_bools {F : Hp} : ∀ {xs : List PyData} {vs : List V}, Rps F vs xs → xs.all isB = true → vs = (xs.map tru).map V.bl
  | [], _, r, _ => by cases r; rfl
  | x :: xs, _, r, h => by
    cases r with
    | cons a b =>
      rw [List.all_cons, Bool.and_eq_true] at h
      rw [rps_bools b h.2]
      cases x with
      | bool y => cases a; rfl
      | _ => simp [isB] at h
theorem lift_all (K : PySem.W.Frag) : LiftN W (rAll K) (pB .all) := by
  intro vs ds H0 H F M ω Qc Q hw ra h k
  unfold pB at h
  split at h <;> try first | exact h.elim | contradiction
  all_goals rename_i e; try cases e
  obtain ⟨v, rfl, r⟩ := rds1 ra
  obtain ⟨a, us, rfl, fa, la, pa⟩ := rp_lst r
  rename_i xs
  refine ⟨a, xs.map tru, rfl, SqL.of ?_, fin0 (H0 := H0) hw k h.2 ?_⟩
  · rw [← rps_bools pa h.1]; exact hw.fh _ _ fa
  · rw [List.all_map]; exact .bl _
/-- sorted(xs), the items alike -/
def rSrtP : List V → Hp → VK → Prop := fun vs H Q => ∃ (a : Addr) (us : List V) (xs : List PyData) (F : Hp), vs = [V.ref a] ∧ H a = some (.lst us) ∧ (∀ a o, F a = some o → H a = some o) ∧ Rps F us xs ∧ PySem.W.AllAlike xs ∧ PySem.W.Sortable xs ∧ (∀ x, x ∈ xs → x.depth ≤ 50) ∧
  ∀ (ws : List V) (p : Addr), H p = none → Rps F ws (xs.mergeSort dle) → Q (.ref p) (upd H p (.lst ws))
theorem call_srtP (hu : X.A.units + 64 < cLine) : CallR X (.builtin "sorted") rSrtP := by
  intro pins s σ H vs us Q I r h
  obtain ⟨a, ws, xs, F, rfl, ha, sb, hr, h1, h2, h3, q⟩ := h
  obtain ⟨its, rv, hl, hz⟩ := I.list (SqL.of (K := X.K) ha)
  rw [Vals.ref1 r]
  have ee : PySem.W.EachIs (fun u d => ∃ v, RelV v u ∧ Rp F v d) its xs := each_of (H := H) rv hr
  have hlen := rps_len hr
  have er : PySem.W.EachIs (fun v b => ∃ as, Reads s.heap v (id b) as) its xs := ee.mono fun u d ⟨v, rv, rp⟩ => rp_reads I (rp_sub sb rp) rv
  refine PySem.W.sorted_data (enc := id) hl.isList ee er (by rw [List.map_id]; exact h1) (by rw [List.map_id]; exact h2) (by omega) (fun b hb => by have := h3 b hb; simp only [id]; omega) fun out ho eo => ?_
  obtain ⟨ep, he'⟩ := PyProof.Rows.sortedAll_at s.heap its (List.toArray out)
  obtain ⟨ys, v1, v2⟩ := each_back eo
  have hd : PySem.W.dataLe false id = dle := rfl
  rw [hd] at v2
  have hlen2 : ys.length ≤ sizeLine := by rw [rps_len v2, List.length_mergeSort, ← hlen]; exact hz
  exact ⟨.ref _, upd H (s.heap.objs.size + 1) (.lst ys), I.laid (t' := s.toks) (fun _ _ => PyProof.Rows.sortedAll_old) (Nat.le_succ _) ⟨hlen2, out, ep, v1, he'⟩, rfl, q ys _ (I.hok.fresh (Nat.le_succ _)) v2⟩
theorem lift_srt : LiftN W rSrtP (pB .srt) := by
  intro vs ds H0 H F M ω Qc Q hw ra h k
  unfold pB at h
  split at h <;> try first | exact h.elim | contradiction
  all_goals rename_i e; try cases e
  obtain ⟨v, rfl, r⟩ := rds1 ra
  obtain ⟨a, us, rfl, fa, la, pa⟩ := rp_lst r
  exact ⟨a, us, _, F, rfl, hw.fh _ _ fa, hw.fh, pa, h.1, h.2.1, h.2.2.1, fun ws p n rw' => finL hw k n h.2.2.2 (by rw [List.length_mergeSort]; exact la) rw'⟩
/-- min(xs), the items alike -/
def rMinP : List V → Hp → VK → Prop := fun vs H Q => ∃ (a : Addr) (us : List V) (x : PyData) (xs : List PyData) (F : Hp), vs = [V.ref a] ∧ H a = some (.lst us) ∧ (∀ a o, F a = some o → H a = some o) ∧ Rps F us (x :: xs) ∧ PySem.W.AlikeAll (x :: xs) ∧ PyData.depthAll (x :: xs) ≤ 50 ∧
  ∀ (w : V), Rp F w (PySem.W.minD x xs) → Q w H
theorem call_minP (hc : X.calm = true) (hu : X.A.units + 64 < cLine) : CallR X (.builtin "min") rMinP := by
  intro pins s σ H vs us Q I r h
  obtain ⟨a, ws, x, xs, F, rfl, ha, sb, hr, h1, h2, q⟩ := h
  obtain ⟨its, rv, hl, hz⟩ := I.list (SqL.of (K := X.K) ha)
  rw [Vals.ref1 r]
  obtain ⟨as, hra⟩ := rps_reads I (rps_sub sb hr) rv
  refine PySem.W.min_list_data (I.ok.hd hc) hl.isList (by simpa using hra) h1 (by omega) fun i v h' tk bs hi hrd hk => ?_
  have hi' : its[i]? = some v := by simpa using hi
  have hlt : i < ws.length := by rw [rv.length]; exact (List.getElem?_eq_some_iff.mp hi').1
  obtain ⟨w0, hw0⟩ : ∃ w0, ws[i]? = some w0 := ⟨ws[i], List.getElem?_eq_getElem hlt⟩
  obtain ⟨u, hu1, ru⟩ := rv.get hw0
  rw [hi'] at hu1; cases hu1
  obtain ⟨d, hd, hrp⟩ := rps_get' hr hw0
  obtain ⟨cs, rd⟩ := rp_reads I (rp_sub sb hrp) ru
  have e := PySem.SeqAt.plain_unique d _ v _ _ (rp_plain hrp) (PySem.W.reads_keeps hk rd) hrd
  refine ⟨w0, H, I.kept hk, ru, q w0 (by rw [← e]; exact hrp)⟩
theorem lift_min : LiftN W rMinP (pB .min) := by
  intro vs ds H0 H F M ω Qc Q hw ra h k
  unfold pB at h
  split at h <;> try first | exact h.elim | contradiction
  all_goals rename_i e; try cases e
  obtain ⟨v, rfl, r⟩ := rds1 ra
  obtain ⟨a, us, rfl, fa, la, pa⟩ := rp_lst r
  exact ⟨a, us, _, _, F, rfl, hw.fh _ _ fa, hw.fh, pa, h.1, h.2.1, fun w rw' => fin0 (H0 := H0) hw k h.2.2 rw'⟩
theorem lift_min2 : LiftN W (fun xs H Q => ∃ i j, xs = [.int i, .int j] ∧ Q (.int (if j < i then j else i)) H) (pB .min2) := by
  intro vs ds H0 H F M ω Qc Q hw ra h k
  unfold pB at h
  split at h <;> try first | exact h.elim | contradiction
  all_goals rename_i e; try cases e
  obtain ⟨v, u, rfl, r1, r2⟩ := rds2 ra
  cases rp_int r1; cases rp_int r2
  exact ⟨_, _, rfl, fin0 (H0 := H0) hw k h (.int _)⟩
theorem lift_max2 : LiftN W (fun xs H Q => ∃ i j, xs = [.int i, .int j] ∧ Q (.int (if j > i then j else i)) H) (pB .max2) := by
  intro vs ds H0 H F M ω Qc Q hw ra h k
  unfold pB at h
  split at h <;> try first | exact h.elim | contradiction
  all_goals rename_i e; try cases e
  obtain ⟨v, u, rfl, r1, r2⟩ := rds2 ra
  cases rp_int r1; cases rp_int r2
  exact ⟨_, _, rfl, fin0 (H0 := H0) hw k h (.int _)⟩
/-- its name, and the value of that name -/
@[reducible] def Blt.nm : Blt → Str
  | .len => "len" | .tup => "tuple" | .lst => "list" | .all => "all" | .srt => "sorted" | .min => "min" | .min2 => "min" | .max2 => "max"
@[reducible] def Blt.val : Blt → Value
  | .len => .builtin "len" | .tup => .type "tuple" | .lst => .type "list" | .all => .builtin "all" | .srt => .builtin "sorted" | .min => .builtin "min" | .min2 => .builtin "min" | .max2 => .builtin "max"
theorem Blt.boot : ∀ b : Blt, bootBuiltins b.nm = some b.val := by
  intro b
  cases b <;> decide +kernel
theorem blt_ok (W : Ω → Hp → Prop) (X : Cx) (hc : X.calm = true) (hu : X.A.units + 64 < cLine) : ∀ b : Blt, ∃ r, CallR X b.val r ∧ LiftN W r (pB b)
  | .len => ⟨_, call_lenAll, lift_len _⟩
  | .tup => ⟨_, call_tuple_of, lift_tup _⟩
  | .lst => ⟨_, call_list_of, lift_lst _⟩
  | .all => ⟨_, cr_all hc, lift_all _⟩
  | .srt => ⟨_, call_srtP hu, lift_srt⟩
  | .min => ⟨_, call_minP hc hu, lift_min⟩
  | .min2 => ⟨_, call_min2 hc, lift_min2⟩
  | .max2 => ⟨_, call_max2 hc, lift_max2⟩
end
end Q
namespace Q
open PySem PySem.Spec PyProof.Rows L2

/-! ### pure readings of expressions -/
section
variable {Ω : Type}
def dVar (i : Nat) : TD Ω := fun _ env ω Q => match env[i]? with
  | some (.d x) => Q (.d x) ω
  | some (.r v) => Q (.r v) ω
  | _ => False
def dCon (x : PyData) : TD Ω := fun _ _ ω Q => Q (.d x) ω
def dBin (o : Op2) (a b : TD Ω) : TD Ω := fun E env ω Q => a E env ω fun x ω1 => b E env ω1 fun y ω2 => p2 o x y fun d => Q d ω2
def dUn (o : Op1) (a : TD Ω) : TD Ω := fun E env ω Q => a E env ω fun x ω1 => p1 o x fun d => Q d ω1
def dChain (o o' : Op2) (a b c : TD Ω) : TD Ω := fun E env ω Q => a E env ω fun x ω1 => b E env ω1 fun y ω2 => p2 o x y fun d => match d with
  | .d (.bool true) => c E env ω2 fun z ω3 => p2 o' y z fun d => Q d ω3
  | .d (.bool false) => Q (.d (.bool false)) ω2
  | _ => False
def dIsN (neg : Bool) (a : TD Ω) : TD Ω := fun E env ω Q => a E env ω fun x ω1 => match x with
  | .d .none => Q (.d (.bool (!neg))) ω1
  | .d _ => Q (.d (.bool neg)) ω1
  | _ => False
def dNil : TDa Ω := fun _ _ ω Q => Q [] ω
def dCons (a : TD Ω) (r : TDa Ω) : TDa Ω := fun E env ω Q => a E env ω fun x ω1 => r E env ω1 fun xs ω2 => Q (x :: xs) ω2
/-- all are data -/
def dats : List D → Option (List PyData)
  | [] => some []
  | .d x :: r => (dats r).map (x :: ·)
  | _ => none
def dTup (a : TDa Ω) : TD Ω := fun E env ω Q => a E env ω fun ds ω1 => match dats ds with
  | some xs => xs.length ≤ 1000000 ∧ Q (.d (.tuple xs)) ω1
  | none => False
def dLst (own : Bool) (a : TDa Ω) : TD Ω := fun E env ω Q => a E env ω fun ds ω1 => match dats ds with
  | some xs => xs.length ≤ 1000000 ∧ Q (if own = true then .own xs else .d (.list xs)) ω1
  | none => False
def dBlt (b : Blt) (a : TDa Ω) : TD Ω := fun E env ω Q => a E env ω fun ds ω1 => pB b ds fun d => Q d ω1
def dIsa (T : Ty) (a : TD Ω) : TD Ω := fun E env ω Q => a E env ω fun x ω1 => match x with
  | .d y => Q (.d (.bool (isaT T y))) ω1
  | _ => False
abbrev FSpec (Ω : Type) := List D → Ω → QD Ω → XD Ω → Prop
def dCall (sp : FSpec Ω) (a : TDa Ω) : TD Ω := fun E env ω Q => a E env ω fun ds ω1 => sp ds ω1 Q E
/-- and, or, not as values: what stands left is a truth value -/
def dAndV (a b : TD Ω) : TD Ω := fun E env ω Q => a E env ω fun x ω1 => match x with
  | .d (.bool true) => b E env ω1 Q
  | .d (.bool false) => Q (.d (.bool false)) ω1
  | _ => False
def dOrV (a b : TD Ω) : TD Ω := fun E env ω Q => a E env ω fun x ω1 => match x with
  | .d (.bool true) => Q (.d (.bool true)) ω1
  | .d (.bool false) => b E env ω1 Q
  | _ => False
def dNotV (a : TD Ω) : TD Ω := fun E env ω Q => a E env ω fun x ω1 => match x with
  | .d (.bool c) => Q (.d (.bool (!c))) ω1
  | _ => False
/-- tests -/
def dTru (a : TD Ω) : TDb Ω := fun E env ω Q => a E env ω fun x ω1 => pTru x fun b => Q b ω1
def dAnd (a b : TDb Ω) : TDb Ω := fun E env ω Q => a E env ω fun c ω1 => match c with
  | true => b E env ω1 Q
  | false => Q false ω1
def dOr (a b : TDb Ω) : TDb Ω := fun E env ω Q => a E env ω fun c ω1 => match c with
  | true => Q true ω1
  | false => b E env ω1 Q
def dNot (a : TDb Ω) : TDb Ω := fun E env ω Q => a E env ω fun c ω1 => Q (!c) ω1
def dIf (t : TDb Ω) (a b : TD Ω) : TD Ω := fun E env ω Q => t E env ω fun c ω1 => match c with
  | true => a E env ω1 Q
  | false => b E env ω1 Q
/-- slices -/
abbrev TDo (Ω : Type) := XD Ω → List S → Ω → (Option Int → Ω → Prop) → Prop
def dNo : TDo Ω := fun _ _ ω Q => Q none ω
def dSome (a : TD Ω) : TDo Ω := fun E env ω Q => a E env ω fun x ω1 => match x with
  | .d (.int i) => Q (some i) ω1
  | _ => False
def cutD {α : Type} (xs : List α) (lo hi : Option Int) : List α := (xs.drop (HT.sIx xs.length 0 lo)).take (HT.sIx xs.length xs.length hi - HT.sIx xs.length 0 lo)
def pSl : D → Option Int → Option Int → (D → Prop) → Prop
  | .d (.list xs), lo, hi, Q => Q (.d (.list (cutD xs lo hi)))
  | .d (.tuple xs), lo, hi, Q => Q (.d (.tuple (cutD xs lo hi)))
  | .d (.str z), lo, hi, Q => z.length ≤ 1000000 ∧ Q (.d (.str (cutS z lo hi)))
  | _, _, _, _ => False
def dSl (a : TD Ω) (lo hi : TDo Ω) : TD Ω := fun E env ω Q => a E env ω fun x ω1 => lo E env ω1 fun l ω2 => hi E env ω2 fun u ω3 => pSl x l u fun d => Q d ω3
end

section
variable {Ω : Type} {W : Ω → Hp → Prop} {C : Cxx} {X : Cx} {a b c : Expr} {ta tb tc : TD Ω} {pos : Pos}
theorem de_var {i : Nat} {x : Str} (hN : X.N[i]? = some x) (hv : Vis X.env.scope x) (hd : (x == ("__debug__" : Str)) = false) (hcd : (x == ("__classdict__" : Str)) = false) : PE X (.Name x pos) (tOf W C (dVar i)) := by
  refine pe_imp (pe_var hN hv hd hcd) fun σ H Q h => ?_
  obtain ⟨env, ω, F, M, Ec, Qc, j, ht, hx, k⟩ := h
  unfold dVar at ht
  split at ht
  · rename_i x e
    obtain ⟨ov, e1, v, rfl, rp⟩ := j.sl i _ e
    exact ⟨v, e1, k _ _ _ _ _ _ ht j.hw (Ex.refl H F M) rp⟩
  · rename_i v e
    obtain ⟨ov, e1, rfl⟩ := j.sl i _ e
    exact ⟨v, e1, k _ _ _ _ _ _ ht j.hw (Ex.refl H F M) rfl⟩
  · exact ht.elim
theorem de_con {x : PyData} {v : V} (h : PE X a (tC v)) (hr : ∀ F, Rp F v x) : PE X a (tOf W C (dCon x)) := by
  refine pe_imp h fun σ H Q h => ?_
  obtain ⟨env, ω, F, M, Ec, Qc, j, ht, hx, k⟩ := h
  exact k _ _ _ _ _ _ ht j.hw (Ex.refl H F M) (hr F)
theorem imp_bin {o : Op2} {r : R2} (lf : Lift2 W r (p2 o)) (σ : L2.St) (H : Hp) (Q : VK) (h : tOf W C (dBin o ta tb) σ H Q) : tOp r (tOf W C ta) (tOf W C tb) σ H Q := by
  obtain ⟨env, ω, F, M, Ec, Qc, j, ht, hx, k⟩ := h
  refine ⟨env, ω, F, M, Ec, _, j, ht, hx, fun x ω1 v1 H1 F1 M1 q1 hw1 ex1 r1 => ?_⟩
  refine ⟨env, ω1, F1, M1, Ec, _, j.step hw1 ex1, q1, hx.step ex1, fun y ω2 v2 H2 F2 M2 q2 hw2 ex2 r2 => ?_⟩
  have ex := ex1.trans ex2
  exact lf v1 v2 x y H H2 F2 M2 ω2 _ _ hw2 (r1.step ex2) (r2.back ex1.al) q2 fun d v H' F' M' q hw' ex' r' => k d ω2 v H' F' M' q hw' (ex.trans ex') (r'.back ex.al)
theorem de_bin {o : Op2} {op : Operator} (e : o.bin = some op) (ha : PE X a (tOf W C ta)) (hb : PE X b (tOf W C tb)) : PE X (.BinOp a op b pos) (tOf W C (dBin o ta tb)) := by
  obtain ⟨r, ho, lf⟩ := op_bin W X e
  exact pe_imp (pe_op ho ha hb) (imp_bin lf)
theorem de_cmp {o : Op2} {op : CmpOp} (e : o.cmp = some op) (hu : X.A.units + 64 < cLine) (ha : PE X a (tOf W C ta)) (hb : PE X b (tOf W C tb)) (hm : behindInMarks op b = false) : PE X (.Compare a [op] [b] pos) (tOf W C (dBin o ta tb)) := by
  obtain ⟨r, ho, lf⟩ := op_cmp W X hu e
  exact pe_imp (pe_cmpR ho ha hb hm) (imp_bin lf)
theorem de_ix (ha : PE X a (tOf W C ta)) (hb : PE X b (tOf W C tb)) (hs : PlainIx b) : PE X (.Subscript a b pos) (tOf W C (dBin .ix ta tb)) :=
  pe_imp (pe_ix ix_seq ha hb hs) (imp_bin (lift_ix _))
theorem de_neg (ha : PE X a (tOf W C ta)) : PE X (.UnaryOp .USub a pos) (tOf W C (dUn .neg ta)) := by
  refine pe_imp (pe_un un_neg ha) fun σ H Q h => ?_
  obtain ⟨env, ω, F, M, Ec, Qc, j, ht, hx, k⟩ := h
  refine ⟨env, ω, F, M, Ec, _, j, ht, hx, fun x ω1 v1 H1 F1 M1 q1 hw1 ex1 r1 => ?_⟩
  unfold p1 at q1
  split at q1 <;> try first | exact q1.elim | contradiction
  cases rp_int r1
  exact ⟨_, rfl, k _ _ _ _ _ _ q1 hw1 ex1 (.int _)⟩
theorem de_inv (ha : PE X a (tOf W C ta)) : PE X (.UnaryOp .Invert a pos) (tOf W C (dUn .inv ta)) := by
  refine pe_imp (pe_un un_inv ha) fun σ H Q h => ?_
  obtain ⟨env, ω, F, M, Ec, Qc, j, ht, hx, k⟩ := h
  refine ⟨env, ω, F, M, Ec, _, j, ht, hx, fun x ω1 v1 H1 F1 M1 q1 hw1 ex1 r1 => ?_⟩
  unfold p1 at q1
  split at q1 <;> try first | exact q1.elim | contradiction
  cases rp_int r1
  exact ⟨_, rfl, k _ _ _ _ _ _ q1 hw1 ex1 (.int _)⟩
/-- a op b op' c -/
theorem imp_chain {o o' : Op2} {r r' : R2} (lf : Lift2 W r (p2 o)) (lf' : Lift2 W r' (p2 o')) (σ : L2.St) (H : Hp) (Q : VK) (h : tOf W C (dChain o o' ta tb tc) σ H Q) : tChain r r' (tOf W C ta) (tOf W C tb) (tOf W C tc) σ H Q := by
  obtain ⟨env, ω, F, M, Ec, Qc, j, ht, hx, k⟩ := h
  refine ⟨env, ω, F, M, Ec, _, j, ht, hx, fun x ω1 v1 H1 F1 M1 q1 hw1 ex1 r1 => ?_⟩
  refine ⟨env, ω1, F1, M1, Ec, _, j.step hw1 ex1, q1, hx.step ex1, fun y ω2 v2 H2 F2 M2 q2 hw2 ex2 r2 => ?_⟩
  have ex := ex1.trans ex2
  refine lf v1 v2 x y H H2 F2 M2 ω2 _ _ hw2 (r1.step ex2) (r2.back ex1.al) q2 fun d v H' F' M' q hw' ex' r' => ?_
  have ex3 := ex.trans ex'
  split at q
  · cases rp_bl r'
    refine ⟨true, rfl, ?_⟩
    rw [if_pos rfl]
    refine ⟨env, ω2, F', M', Ec, _, j.step hw' ex3, q, hx.step ex3, fun z ω3 v3 H3 F3 M3 q3 hw3 ex4 r3 => ?_⟩
    have ex5 := ex3.trans ex4
    exact lf' v2 v3 y z H H3 F3 M3 ω3 _ _ hw3 (((r2.back ex1.al).step ex').step ex4) (r3.back ex3.al) q3 fun d v H' F' M' q hw' ex' r' => k d ω3 v H' F' M' q hw' (ex5.trans ex') (r'.back ex5.al)
  · cases rp_bl r'
    refine ⟨false, rfl, ?_⟩
    rw [if_neg Bool.false_ne_true]
    exact k _ _ _ _ _ _ q hw' ex3 (.bl _)
  · exact q.elim
theorem de_chain {o o' : Op2} {op op' : CmpOp} (e : o.cmp = some op) (e' : o'.cmp = some op') (hu : X.A.units + 64 < cLine) (ha : PE X a (tOf W C ta)) (hb : PE X b (tOf W C tb)) (hc : PE X c (tOf W C tc)) (h2 : behindInMarks op' c = false) :
    PE X (.Compare a [op, op'] [b, c] pos) (tOf W C (dChain o o' ta tb tc)) := by
  obtain ⟨r, ho, lf⟩ := op_cmp W X hu e
  obtain ⟨r', ho', lf'⟩ := op_cmp W X hu e'
  exact pe_imp (pe_chain ho ho' ha hb hc (show lastMarks [op, op'] [b, c] = false from h2)) (imp_chain lf lf')
/-- is None, is not None -/
theorem de_isN {neg : Bool} {k0 : Nat} {pos' : Pos} (ha : PE X a (tOf W C ta)) : PE X (.Compare a [if neg = true then .IsNot else .Is] [.Constant .none k0 pos'] pos) (tOf W C (dIsN neg ta)) := by
  have rn : ∀ {F : Hp} {v : V} {x : PyData}, Rp F v x → decide (v = V.non) = (match x with | .none => true | _ => false) := fun {F v x} r => by cases r <;> rfl
  cases neg with
  | false =>
    refine pe_imp (pe_cmp (pc_isN ha) rfl) fun σ H Q h => ?_
    obtain ⟨env, ω, F, M, Ec, Qc, j, ht, hx, k⟩ := h
    refine ⟨env, ω, F, M, Ec, _, j, ht, hx, fun x ω1 v1 H1 F1 M1 q1 hw1 ex1 r1 => ?_⟩
    cases x with
    | d y =>
      rw [rn r1]
      cases y <;> exact k _ _ _ _ _ _ q1 hw1 ex1 (.bl _)
    | _ => exact q1.elim
  | true =>
    refine pe_imp (pe_cmp (pc_notN ha) rfl) fun σ H Q h => ?_
    obtain ⟨env, ω, F, M, Ec, Qc, j, ht, hx, k⟩ := h
    refine ⟨env, ω, F, M, Ec, _, j, ht, hx, fun x ω1 v1 H1 F1 M1 q1 hw1 ex1 r1 => ?_⟩
    cases x with
    | d y =>
      rw [rn r1]
      cases y <;> exact k _ _ _ _ _ _ q1 hw1 ex1 (.bl _)
    | _ => exact q1.elim
/-! arguments -/
variable {es : List Expr} {ts : TDa Ω}
theorem da_nil : PA X [] (aOf W C (dNil (Ω := Ω))) := by
  refine pa_imp pa_nil fun σ H Q h => ?_
  obtain ⟨env, ω, F, M, Ec, Qc, j, ht, hx, k⟩ := h
  exact k _ _ _ _ _ _ ht j.hw (Ex.refl H F M) .nil
theorem RDs.step {H0 F M H F' M' H' : Hp} {vs : List V} {ds : List D} (x : Ex H F M H' F' M') (h : RDs H0 F M H vs ds) : RDs H0 F' M' H' vs ds := L2.Paired.mapP h fun _ _ r => r.step x
theorem RDs.back {H0 H1 F M H : Hp} {vs : List V} {ds : List D} (x : ∀ a, H1 a = none → H0 a = none) (h : RDs H1 F M H vs ds) : RDs H0 F M H vs ds := L2.Paired.mapP h fun _ _ r => r.back x
theorem da_cons (ha : PE X a (tOf W C ta)) (hr : PA X es (aOf W C ts)) (hs : starEach (a :: es) X.env = (false, eval a X.env) :: starEach es X.env) : PA X (a :: es) (aOf W C (dCons ta ts)) := by
  refine pa_imp (pa_cons ha hr hs) fun σ H Q h => ?_
  obtain ⟨env, ω, F, M, Ec, Qc, j, ht, hx, k⟩ := h
  refine ⟨env, ω, F, M, Ec, _, j, ht, hx, fun x ω1 v1 H1 F1 M1 q1 hw1 ex1 r1 => ?_⟩
  refine ⟨env, ω1, F1, M1, Ec, _, j.step hw1 ex1, q1, hx.step ex1, fun xs ω2 vs H2 F2 M2 q2 hw2 ex2 r2 => ?_⟩
  exact k _ _ _ _ _ _ q2 hw2 (ex1.trans ex2) (.cons (r1.step ex2) (r2.back ex1.al))
theorem rds_dats {H0 F M H : Hp} : ∀ {ds : List D} {vs : List V} {xs : List PyData}, RDs H0 F M H vs ds → dats ds = some xs → Rps F vs xs
  | [], _, _, r, e => by cases r; cases e; exact .nil
  | .d x :: r, _, xs, h, e => by
    cases h with
    | cons a b =>
      simp only [dats] at e
      cases q : dats r with
      | none => rw [q] at e; cases e
      | some ys => rw [q] at e; cases e; exact .cons a (rds_dats b q)
  | .own _ :: _, _, _, _, e => by cases e
  | .r _ :: _, _, _, _, e => by cases e
theorem de_tup {k1 : Nat} (h : PA X es (aOf W C ts)) : PE X (.Tuple es k1 pos) (tOf W C (dTup ts)) := by
  refine pe_imp (pe_tup h) fun σ H Q h => ?_
  obtain ⟨env, ω, F, M, Ec, Qc, j, ht, hx, k⟩ := h
  refine ⟨env, ω, F, M, Ec, _, j, ht, hx, fun ds ω1 vs H1 F1 M1 q1 hw1 ex1 r1 => ?_⟩
  split at q1
  · rename_i xs e
    have pa := rds_dats r1 e
    exact ⟨by rw [rps_len pa]; exact big_ok q1.1, fun p n => finT hw1 (fun d v H' F' M' q hw' ex' r' => k d ω1 v H' F' M' q hw' (ex1.trans ex') (r'.back ex1.al)) n q1.2 q1.1 pa⟩
  · exact q1.elim
theorem de_lst {own : Bool} (h : PA X es (aOf W C ts)) : PE X (.List es pos) (tOf W C (dLst own ts)) := by
  refine pe_imp (pe_lst h) fun σ H Q h => ?_
  obtain ⟨env, ω, F, M, Ec, Qc, j, ht, hx, k⟩ := h
  refine ⟨env, ω, F, M, Ec, _, j, ht, hx, fun ds ω1 vs H1 F1 M1 q1 hw1 ex1 r1 => ?_⟩
  split at q1
  · rename_i xs e
    have pa := rds_dats r1 e
    refine ⟨by rw [rps_len pa]; exact big_ok q1.1, fun p n => ?_⟩
    cases own with
    | true => exact finO hw1 (fun d v H' F' M' q hw' ex' r' => k d ω1 v H' F' M' q hw' (ex1.trans ex') (r'.back ex1.al)) n q1.2 q1.1 pa
    | false => exact finL hw1 (fun d v H' F' M' q hw' ex' r' => k d ω1 v H' F' M' q hw' (ex1.trans ex') (r'.back ex1.al)) n q1.2 q1.1 pa
  · exact q1.elim
theorem imp_blt {b : Blt} {r : List V → Hp → VK → Prop} (lf : LiftN W r (pB b)) (σ : L2.St) (H : Hp) (Q : VK) (h : tOf W C (dBlt b ts) σ H Q) : tCB r (aOf W C ts) σ H Q := by
  obtain ⟨env, ω, F, M, Ec, Qc, j, ht, hx, k⟩ := h
  refine ⟨env, ω, F, M, Ec, _, j, ht, hx, fun ds ω1 vs H1 F1 M1 q1 hw1 ex1 r1 => ?_⟩
  exact lf vs ds H H1 F1 M1 ω1 _ _ hw1 r1 q1 fun d v H' F' M' q hw' ex' r' => k d ω1 v H' F' M' q hw' (ex1.trans ex') (r'.back ex1.al)
theorem de_blt {b : Blt} {p : Pos} (hc : X.calm = true) (hu : X.A.units + 64 < cLine) (hg : Gl X b.nm) (hm : X.mg b.nm = none) (ha : PA X (a :: es) (aOf W C ts)) (he : starEach (a :: es) X.env = (false, eval a X.env) :: starEach es X.env) (hpl : (backTo pos (starEach es X.env)).any (·.1) = false) :
    PE X (.Call (.Name b.nm p) (a :: es) [] pos) (tOf W C (dBlt b ts)) := by
  obtain ⟨r, hr, lf⟩ := blt_ok W X hc hu b
  have hbt := b.boot
  cases b <;> first
    | exact pe_imp (pe_callB hr hg hm hbt ha (by decide) (by decide) he hpl) (imp_blt lf)
    | exact pe_imp (pe_callTy hr hg hm hbt ha (by decide) (by decide) he hpl) (imp_blt lf)
/-- isinstance(e, T) -/
theorem Ty.boot : ∀ T : Ty, bootBuiltins (Str.ofString T.nm) = some (.type T.nm) := by
  intro T
  cases T <;> decide +kernel
theorem de_isa {T : Ty} {p p2 : Pos} (hg : Gl X "isinstance") (hm : X.mg "isinstance" = none) (hg2 : Gl X (Str.ofString T.nm)) (hm2 : X.mg (Str.ofString T.nm) = none) (ha : PE X a (tOf W C ta)) (he : starEach [a, .Name (Str.ofString T.nm) p2] X.env = (false, eval a X.env) :: starEach [.Name (Str.ofString T.nm) p2] X.env) :
    PE X (.Call (.Name "isinstance" p) [a, .Name (Str.ofString T.nm) p2] [] pos) (tOf W C (dIsa T ta)) := by
  have h2 : PE X (.Name (Str.ofString T.nm) p2) (tC (.ty T.nm)) := pe_bltn hg2 hm2 T.boot rfl (by cases T <;> decide) (by cases T <;> decide)
  refine pe_imp (pe_callB (call_isiP T) hg hm (by decide +kernel) (pa_cons ha (pa_cons h2 pa_nil) he) (by decide) (by decide) he (by rfl)) fun σ H Q h => ?_
  obtain ⟨env, ω, F, M, Ec, Qc, j, ht, hx, k⟩ := h
  refine ⟨env, ω, F, M, Ec, _, j, ht, hx, fun x ω1 v1 H1 F1 M1 q1 hw1 ex1 r1 => ?_⟩
  cases x with
  | d y => exact ⟨v1, y, rfl, rp_sub hw1.fh r1, k _ _ _ _ _ _ q1 hw1 ex1 (.bl _)⟩
  | _ => exact q1.elim
/-! and, or, not as values -/
variable {rest : List Expr}
theorem de_one {op : BoolOp} {t : TD Ω} (h : PE X a (tOf W C t)) : PE X (.BoolOp op [a] pos) (tOf W C t) := pe_one h
theorem de_and (ha : PE X a (tOf W C ta)) (hb : PE X (.BoolOp .And (b :: rest) pos) (tOf W C tb)) : PE X (.BoolOp .And (a :: b :: rest) pos) (tOf W C (dAndV ta tb)) := by
  refine pe_imp (pe_and ha hb) fun σ H Q h => ?_
  obtain ⟨env, ω, F, M, Ec, Qc, j, ht, hx, k⟩ := h
  refine ⟨env, ω, F, M, Ec, _, j, ht, hx, fun x ω1 v1 H1 F1 M1 q1 hw1 ex1 r1 => ?_⟩
  split at q1
  · cases rp_bl r1
    refine ⟨true, rfl, ?_⟩
    rw [if_pos rfl]
    exact ⟨env, ω1, F1, M1, Ec, _, j.step hw1 ex1, q1, hx.step ex1, fun d ω' v H' F' M' q hw' ex' r' => k d ω' v H' F' M' q hw' (ex1.trans ex') (r'.back ex1.al)⟩
  · cases rp_bl r1
    refine ⟨false, rfl, ?_⟩
    rw [if_neg Bool.false_ne_true]
    exact k _ _ _ _ _ _ q1 hw1 ex1 (.bl _)
  · exact q1.elim
theorem de_or (ha : PE X a (tOf W C ta)) (hb : PE X (.BoolOp .Or (b :: rest) pos) (tOf W C tb)) : PE X (.BoolOp .Or (a :: b :: rest) pos) (tOf W C (dOrV ta tb)) := by
  refine pe_imp (pe_or ha hb) fun σ H Q h => ?_
  obtain ⟨env, ω, F, M, Ec, Qc, j, ht, hx, k⟩ := h
  refine ⟨env, ω, F, M, Ec, _, j, ht, hx, fun x ω1 v1 H1 F1 M1 q1 hw1 ex1 r1 => ?_⟩
  split at q1
  · cases rp_bl r1
    refine ⟨true, rfl, ?_⟩
    rw [if_pos rfl]
    exact k _ _ _ _ _ _ q1 hw1 ex1 (.bl _)
  · cases rp_bl r1
    refine ⟨false, rfl, ?_⟩
    rw [if_neg Bool.false_ne_true]
    exact ⟨env, ω1, F1, M1, Ec, _, j.step hw1 ex1, q1, hx.step ex1, fun d ω' v H' F' M' q hw' ex' r' => k d ω' v H' F' M' q hw' (ex1.trans ex') (r'.back ex1.al)⟩
  · exact q1.elim
theorem de_not (ha : PE X a (tOf W C ta)) : PE X (.UnaryOp .Not a pos) (tOf W C (dNotV ta)) := by
  refine pe_imp (pe_not ha) fun σ H Q h => ?_
  obtain ⟨env, ω, F, M, Ec, Qc, j, ht, hx, k⟩ := h
  refine ⟨env, ω, F, M, Ec, _, j, ht, hx, fun x ω1 v1 H1 F1 M1 q1 hw1 ex1 r1 => ?_⟩
  split at q1
  · cases rp_bl r1
    exact ⟨_, rfl, k _ _ _ _ _ _ q1 hw1 ex1 (.bl _)⟩
  · exact q1.elim
/-! tests -/
variable {sa sb : TDb Ω}
theorem rps_empty {F : Hp} {vs : List V} {xs : List PyData} (h : Rps F vs xs) : vs.isEmpty = xs.isEmpty := by cases h <;> rfl
theorem imp_tru {t : TE} {T : TD Ω} (hi : ∀ σ H Q, tOf W C T σ H Q → t σ H Q) (σ : L2.St) (H : Hp) (Q : Bool → Hp → Prop) (h : bOf W C (dTru T) σ H Q) : t σ H fun x H' => ∃ k, TruV X.K x H' k ∧ Q k H' := by
  obtain ⟨env, ω, F, M, Ec, Qc, j, ht, hx, k⟩ := h
  refine hi σ H _ ⟨env, ω, F, M, Ec, _, j, ht, hx, fun x ω1 v1 H1 F1 M1 q1 hw1 ex1 r1 => ?_⟩
  unfold pTru at q1
  split at q1
  · cases r1; exact ⟨_, rfl, k _ _ _ _ _ q1 hw1 ex1⟩
  · cases rp_bl r1; exact ⟨_, rfl, k _ _ _ _ _ q1 hw1 ex1⟩
  · cases rp_int r1; exact ⟨_, rfl, k _ _ _ _ _ q1 hw1 ex1⟩
  · obtain ⟨a, vs, rfl, fa, la, pa⟩ := rp_lst r1
    refine ⟨_, .inl ⟨vs, SqL.of (hw1.fh _ _ fa), rfl⟩, ?_⟩
    rw [rps_empty pa]; exact k _ _ _ _ _ q1 hw1 ex1
  · obtain ⟨a, vs, rfl, fa, la, pa⟩ := rp_tup r1
    refine ⟨_, .inr (.inl ⟨vs, SqT.of (hw1.fh _ _ fa), rfl⟩), ?_⟩
    rw [rps_empty pa]; exact k _ _ _ _ _ q1 hw1 ex1
  · exact q1.elim
/-- a plain expression as a test -/
theorem dt_tru (ha : PE X a (tOf W C ta)) (he : ∀ whole, isTrue a X.env whole = (do let v ← whole; standAt a.pos; holding [v] (truthy v))) : PT X a (bOf W C (dTru ta)) :=
  pt_imp (pt_truth ha he) (imp_tru fun _ _ _ h => h)
/-- a comparison as a test: its value is a truth value -/
theorem p2_bool {o : Op2} {op : CmpOp} (e : o.cmp = some op) (x y : D) (Q : D → Prop) (h : p2 o x y Q) : p2 o x y fun d => (∃ b, d = .d (.bool b)) ∧ Q d := by
  cases o <;> first | (cases e; done) | skip
  all_goals
    unfold p2 at h ⊢
    split at h <;> first | exact h.elim | contradiction | skip
  all_goals first
    | (exact ⟨⟨_, rfl⟩, h⟩)
    | (exact ⟨h.1, ⟨_, rfl⟩, h.2⟩)
    | skip
  all_goals (rename_i e; first | (cases e; done) | skip)
theorem imp_binT {o : Op2} {op : CmpOp} {r : R2} (e : o.cmp = some op) (lf : Lift2 W r (p2 o)) (σ : L2.St) (H : Hp) (Q : Bool → Hp → Prop) (h : bOf W C (dTru (dBin o ta tb)) σ H Q) : tTest (tOp r (tOf W C ta) (tOf W C tb)) σ H Q := by
  obtain ⟨env, ω, F, M, Ec, Qc, j, ht, hx, k⟩ := h
  refine ⟨env, ω, F, M, Ec, _, j, ht, hx, fun x ω1 v1 H1 F1 M1 q1 hw1 ex1 r1 => ?_⟩
  refine ⟨env, ω1, F1, M1, Ec, _, j.step hw1 ex1, q1, hx.step ex1, fun y ω2 v2 H2 F2 M2 q2 hw2 ex2 r2 => ?_⟩
  have ex := ex1.trans ex2
  refine lf v1 v2 x y H H2 F2 M2 ω2 _ _ hw2 (r1.step ex2) (r2.back ex1.al) (p2_bool e x y _ q2) fun d v H' F' M' q hw' ex' r' => ?_
  obtain ⟨⟨b, rfl⟩, q⟩ := q
  cases rp_bl r'
  exact ⟨b, rfl, k b ω2 H' F' M' q hw' (ex.trans ex')⟩
theorem dt_cmp {o : Op2} {op : CmpOp} (e : o.cmp = some op) (hu : X.A.units + 64 < cLine) (ha : PE X a (tOf W C ta)) (hb : PE X b (tOf W C tb)) (hm : behindInMarks op b = false) : PT X (.Compare a [op] [b] pos) (bOf W C (dTru (dBin o ta tb))) := by
  obtain ⟨r, ho, lf⟩ := op_cmp W X hu e
  exact pt_imp (pt_cmpR ho ha hb hm) (imp_binT e lf)
theorem imp_chainT {o o' : Op2} {op op' : CmpOp} {r r' : R2} (e : o.cmp = some op) (e' : o'.cmp = some op') (lf : Lift2 W r (p2 o)) (lf' : Lift2 W r' (p2 o')) (σ : L2.St) (H : Hp) (Q : Bool → Hp → Prop) (h : bOf W C (dTru (dChain o o' ta tb tc)) σ H Q) : tTest (tChain r r' (tOf W C ta) (tOf W C tb) (tOf W C tc)) σ H Q := by
  obtain ⟨env, ω, F, M, Ec, Qc, j, ht, hx, k⟩ := h
  refine ⟨env, ω, F, M, Ec, _, j, ht, hx, fun x ω1 v1 H1 F1 M1 q1 hw1 ex1 r1 => ?_⟩
  refine ⟨env, ω1, F1, M1, Ec, _, j.step hw1 ex1, q1, hx.step ex1, fun y ω2 v2 H2 F2 M2 q2 hw2 ex2 r2 => ?_⟩
  have ex := ex1.trans ex2
  refine lf v1 v2 x y H H2 F2 M2 ω2 _ _ hw2 (r1.step ex2) (r2.back ex1.al) q2 fun d v H' F' M' q hw' ex' r' => ?_
  have ex3 := ex.trans ex'
  split at q
  · cases rp_bl r'
    refine ⟨true, rfl, ?_⟩
    rw [if_pos rfl]
    refine ⟨env, ω2, F', M', Ec, _, j.step hw' ex3, q, hx.step ex3, fun z ω3 v3 H3 F3 M3 q3 hw3 ex4 r3 => ?_⟩
    have ex5 := ex3.trans ex4
    refine lf' v2 v3 y z H H3 F3 M3 ω3 _ _ hw3 (((r2.back ex1.al).step ex').step ex4) (r3.back ex3.al) (p2_bool e' y z _ q3) fun d v H' F' M' q hw' ex' r' => ?_
    obtain ⟨⟨b, rfl⟩, q⟩ := q
    cases rp_bl r'
    exact ⟨b, rfl, k b ω3 H' F' M' q hw' (ex5.trans ex')⟩
  · cases rp_bl r'
    refine ⟨false, rfl, ?_⟩
    rw [if_neg Bool.false_ne_true]
    exact ⟨false, rfl, k _ _ _ _ _ q hw' ex3⟩
  · exact q.elim
theorem dt_chain {o o' : Op2} {op op' : CmpOp} (e : o.cmp = some op) (e' : o'.cmp = some op') (hu : X.A.units + 64 < cLine) (ha : PE X a (tOf W C ta)) (hb : PE X b (tOf W C tb)) (hc : PE X c (tOf W C tc)) (h2 : behindInMarks op' c = false) :
    PT X (.Compare a [op, op'] [b, c] pos) (bOf W C (dTru (dChain o o' ta tb tc))) := by
  obtain ⟨r, ho, lf⟩ := op_cmp W X hu e
  obtain ⟨r', ho', lf'⟩ := op_cmp W X hu e'
  exact pt_imp (pt_chain ho ho' ha hb hc (show lastMarks [op, op'] [b, c] = false from h2)) (imp_chainT e e' lf lf')
/-- is None, as a test -/
theorem dt_isN {neg : Bool} {k0 : Nat} {pos' : Pos} (ha : PE X a (tOf W C ta)) : PT X (.Compare a [if neg = true then .IsNot else .Is] [.Constant .none k0 pos'] pos) (bOf W C (dTru (dIsN neg ta))) := by
  have rn : ∀ {F : Hp} {v : V} {x : PyData}, Rp F v x → decide (v = V.non) = (match x with | .none => true | _ => false) := fun {F v x} r => by cases r <;> rfl
  cases neg with
  | false =>
    refine pt_imp (pt_cmp (pc_isN ha) rfl) fun σ H Q h => ?_
    obtain ⟨env, ω, F, M, Ec, Qc, j, ht, hx, k⟩ := h
    refine ⟨env, ω, F, M, Ec, _, j, ht, hx, fun x ω1 v1 H1 F1 M1 q1 hw1 ex1 r1 => ?_⟩
    cases x with
    | d y =>
      refine ⟨_, rfl, ?_⟩
      rw [rn r1]
      cases y <;> exact k _ _ _ _ _ q1 hw1 ex1
    | _ => exact q1.elim
  | true =>
    refine pt_imp (pt_cmp (pc_notN ha) rfl) fun σ H Q h => ?_
    obtain ⟨env, ω, F, M, Ec, Qc, j, ht, hx, k⟩ := h
    refine ⟨env, ω, F, M, Ec, _, j, ht, hx, fun x ω1 v1 H1 F1 M1 q1 hw1 ex1 r1 => ?_⟩
    cases x with
    | d y =>
      refine ⟨_, rfl, ?_⟩
      rw [rn r1]
      cases y <;> exact k _ _ _ _ _ q1 hw1 ex1
    | _ => exact q1.elim
theorem dw_and1 (ha : PT X a (bOf W C sa)) : PW X (.BoolOp .And [a] pos) (bOf W C sa) := pw_and1 ha
theorem dw_or1 (ha : PT X a (bOf W C sa)) : PW X (.BoolOp .Or [a] pos) (bOf W C sa) := pw_or1 ha
theorem pw_imp {e : Expr} {t t' : TT} (h : PW X e t) (i : ∀ σ H Q, t' σ H Q → t σ H Q) : PW X e t' := ⟨fun wh pins s σ H Q I q => h.run wh pins s σ H Q I (i σ H Q q)⟩
theorem dw_and (ha : PT X a (bOf W C sa)) (hb : PW X (.BoolOp .And (b :: rest) pos) (bOf W C sb)) : PW X (.BoolOp .And (a :: b :: rest) pos) (bOf W C (dAnd sa sb)) := by
  refine pw_imp (pw_and ha hb) fun σ H Q h => ?_
  obtain ⟨env, ω, F, M, Ec, Qc, j, ht, hx, k⟩ := h
  refine ⟨env, ω, F, M, Ec, _, j, ht, hx, fun c ω1 H1 F1 M1 q1 hw1 ex1 => ?_⟩
  cases c with
  | true =>
    rw [if_pos rfl]
    exact ⟨env, ω1, F1, M1, Ec, _, j.step hw1 ex1, q1, hx.step ex1, fun d ω' H' F' M' q hw' ex' => k d ω' H' F' M' q hw' (ex1.trans ex')⟩
  | false =>
    rw [if_neg Bool.false_ne_true]
    exact k _ _ _ _ _ q1 hw1 ex1
theorem dw_or (ha : PT X a (bOf W C sa)) (hb : PW X (.BoolOp .Or (b :: rest) pos) (bOf W C sb)) : PW X (.BoolOp .Or (a :: b :: rest) pos) (bOf W C (dOr sa sb)) := by
  refine pw_imp (pw_or ha hb) fun σ H Q h => ?_
  obtain ⟨env, ω, F, M, Ec, Qc, j, ht, hx, k⟩ := h
  refine ⟨env, ω, F, M, Ec, _, j, ht, hx, fun c ω1 H1 F1 M1 q1 hw1 ex1 => ?_⟩
  cases c with
  | true =>
    rw [if_pos rfl]
    exact k _ _ _ _ _ q1 hw1 ex1
  | false =>
    rw [if_neg Bool.false_ne_true]
    exact ⟨env, ω1, F1, M1, Ec, _, j.step hw1 ex1, q1, hx.step ex1, fun d ω' H' F' M' q hw' ex' => k d ω' H' F' M' q hw' (ex1.trans ex')⟩
theorem dt_not (ha : PT X a (bOf W C sa)) : PT X (.UnaryOp .Not a pos) (bOf W C (dNot sa)) := by
  refine pt_imp (pt_not ha) fun σ H Q h => ?_
  obtain ⟨env, ω, F, M, Ec, Qc, j, ht, hx, k⟩ := h
  exact ⟨env, ω, F, M, Ec, _, j, ht, hx, fun c ω1 H1 F1 M1 q1 hw1 ex1 => k _ _ _ _ _ q1 hw1 ex1⟩
theorem de_if (ht : PT X c (bOf W C sa)) (ha : PE X a (tOf W C ta)) (hb : PE X b (tOf W C tb)) : PE X (.IfExp c a b pos) (tOf W C (dIf sa ta tb)) := by
  refine pe_imp (pe_ifExp ht ha hb) fun σ H Q h => ?_
  obtain ⟨env, ω, F, M, Ec, Qc, j, ht, hx, k⟩ := h
  refine ⟨env, ω, F, M, Ec, _, j, ht, hx, fun c ω1 H1 F1 M1 q1 hw1 ex1 => ?_⟩
  cases c with
  | true =>
    rw [if_pos rfl]
    exact ⟨env, ω1, F1, M1, Ec, _, j.step hw1 ex1, q1, hx.step ex1, fun d ω' v H' F' M' q hw' ex' r' => k d ω' v H' F' M' q hw' (ex1.trans ex') (r'.back ex1.al)⟩
  | false =>
    rw [if_neg Bool.false_ne_true]
    exact ⟨env, ω1, F1, M1, Ec, _, j.step hw1 ex1, q1, hx.step ex1, fun d ω' v H' F' M' q hw' ex' r' => k d ω' v H' F' M' q hw' (ex1.trans ex') (r'.back ex1.al)⟩
/-! slices -/
def oOf {Ω : Type} (W : Ω → Hp → Prop) (C : Cxx) (T : TDo Ω) : TO := fun σ H Q => ∃ (env : List S) (ω : Ω) (F M : Hp) (Ec : XD Ω) (Qc : Option Int → Ω → Prop), J W env ω F M σ H ∧ T Ec env ω Qc ∧ XOk W C Ec H F M ∧
  ∀ b ω' H' F' M', Qc b ω' → Hw W ω' F' M' H' → Ex H F M H' F' M' → Q b H'
theorem po_imp {e : Option Expr} {t t' : TO} (h : PO X e t) (i : ∀ σ H Q, t' σ H Q → t σ H Q) : PO X e t' := by
  obtain ⟨h⟩ := h
  exact ⟨fun pins s σ H Q I q => h pins s σ H Q I (i σ H Q q)⟩
theorem do_none : PO X none (oOf W C (dNo (Ω := Ω))) := po_imp po_none fun σ H Q h => by
  obtain ⟨env, ω, F, M, Ec, Qc, j, ht, hx, k⟩ := h
  exact k _ _ _ _ _ ht j.hw (Ex.refl H F M)
theorem do_some (ha : PE X a (tOf W C ta)) : PO X (some a) (oOf W C (dSome ta)) := po_imp (po_some ha) fun σ H Q h => by
  obtain ⟨env, ω, F, M, Ec, Qc, j, ht, hx, k⟩ := h
  refine ⟨env, ω, F, M, Ec, _, j, ht, hx, fun x ω1 v1 H1 F1 M1 q1 hw1 ex1 r1 => ?_⟩
  split at q1
  · cases rp_int r1
    exact ⟨_, rfl, k _ _ _ _ _ q1 hw1 ex1⟩
  · exact q1.elim
def rSlAll (K : PySem.W.Frag) : V → Option Int → Option Int → Hp → VK → Prop := fun x lo hi H Q => rSlL K x lo hi H Q ∨ (rSlA K x lo hi H Q ∨ rSlS x lo hi H Q)
theorem sl_all : SlR X (rSlAll X.K) := sl_list.or (sl_tupA.or sl_str)
theorem cutD_len {xs : List PyData} (h : xs.length ≤ 1000000) (lo hi : Option Int) : (cutD xs lo hi).length ≤ 1000000 := by
  unfold cutD
  rw [List.length_take, List.length_drop]
  omega
theorem rps_cut {F : Hp} {vs : List V} {xs : List PyData} (h : Rps F vs xs) (lo hi : Option Int) : Rps F (cutV vs lo hi) (cutD xs lo hi) := by
  unfold cutV cutD
  rw [rps_len h]
  exact rps_take _ (rps_drop _ h)
theorem lift_sl (K : PySem.W.Frag) (x : V) (d : D) (lo hi : Option Int) (H0 H F M : Hp) (ω : Ω) (Qc : D → Prop) (Q : VK) (hw : Hw W ω F M H) (r : RD H0 F M H x d) (h : pSl d lo hi Qc)
    (k : ∀ d v H' F' M', Qc d → Hw W ω F' M' H' → Ex H F M H' F' M' → RD H F' M' H' v d → Q v H') : rSlAll K x lo hi H Q := by
  unfold pSl at h
  split at h
  · obtain ⟨a, vs, rfl, fa, la, pa⟩ := rp_lst r
    exact .inl ⟨a, vs, rfl, SqL.of (hw.fh _ _ fa), fun p n => finL hw k n h (cutD_len la _ _) (rps_cut pa _ _)⟩
  · obtain ⟨a, vs, rfl, fa, la, pa⟩ := rp_tup r
    refine .inr (.inl ⟨a, vs, rfl, SqT.of (hw.fh _ _ fa), fun z => ?_, fun _ p n => finT hw k n h (cutD_len la _ _) (rps_cut pa _ _)⟩)
    rw [rps_len pa] at z
    rw [cutD, z.1, z.2, List.drop_zero, Nat.sub_zero, List.take_length] at h
    exact fin0 (H0 := H0) hw k h (.tup fa (by rw [rps_len pa]; exact la) pa)
  · cases rp_str r
    exact .inr (.inr ⟨_, rfl, big_ok h.1, fin0 (H0 := H0) hw k h.2 (.str _)⟩)
  · exact h.elim
theorem de_sl {lo hi : Option Expr} {tl th : TDo Ω} {p2 : Pos} (ha : PE X a (tOf W C ta)) (hl : PO X lo (oOf W C tl)) (hh : PO X hi (oOf W C th)) : PE X (.Subscript a (.Slice lo hi none p2) pos) (tOf W C (dSl ta tl th)) := by
  refine pe_imp (pe_slice sl_all ha hl hh) fun σ H Q h => ?_
  obtain ⟨env, ω, F, M, Ec, Qc, j, ht, hx, k⟩ := h
  refine ⟨env, ω, F, M, Ec, _, j, ht, hx, fun x ω1 v1 H1 F1 M1 q1 hw1 ex1 r1 => ?_⟩
  refine ⟨env, ω1, F1, M1, Ec, _, j.step hw1 ex1, q1, hx.step ex1, fun l ω2 H2 F2 M2 q2 hw2 ex2 => ?_⟩
  have ex := ex1.trans ex2
  refine ⟨env, ω2, F2, M2, Ec, _, j.step hw2 ex, q2, hx.step ex, fun u ω3 H3 F3 M3 q3 hw3 ex3 => ?_⟩
  have ex4 := ex.trans ex3
  exact lift_sl _ v1 x l u H H3 F3 M3 ω3 _ _ hw3 ((r1.step ex2).step ex3) q3 fun d v H' F' M' q hw' ex' r' => k d ω3 v H' F' M' q hw' (ex4.trans ex') (r'.back ex4.al)
end
end Q
namespace Q
open PySem PySem.Spec PyProof.Rows L2

/-! ### what is walked -/
abbrev Sub (F F' : Hp) : Prop := ∀ a o, F a = some o → F' a = some o
structure Walk {Ω : Type} (W : Ω → Hp → Prop) (Jt : It) (F0 : Hp) (ds : List PyData) : Prop where
  stop : ∀ i H, Sub F0 H → ds.length ≤ i → Jt.stop i H
  go : ∀ i H, Sub F0 H → i < ds.length → Jt.go i H
  yld : ∀ i H x H' d ω F M, Hw W ω F M H → Sub F0 F → ds[i]? = some d → Jt.yld i H x H' → ∃ F', Hw W ω F' M H' ∧ Ex H F M H' F' M ∧ Rp F' x d
  len : ds.length ≤ 1000000
abbrev TDi (Ω : Type) := XD Ω → List S → Ω → (List PyData → Ω → Prop) → Prop
def iOf {Ω : Type} (W : Ω → Hp → Prop) (C : Cxx) (T : TDi Ω) : TI := fun σ H R => ∃ (env : List S) (ω : Ω) (F M : Hp) (Ec : XD Ω) (Qc : List PyData → Ω → Prop), J W env ω F M σ H ∧ T Ec env ω Qc ∧ XOk W C Ec H F M ∧
  ∀ ds ω' Jt H' F' M', Qc ds ω' → Hw W ω' F' M' H' → Ex H F M H' F' M' → Walk W Jt F' ds → R Jt H'
section
variable {Ω : Type} {W : Ω → Hp → Prop} {C : Cxx} {X : Cx} {a b c tg : Expr} {ta tb tc : TD Ω} {pos : Pos}
theorem pi_imp {e : Expr} {t t' : TI} (h : PI X tg e t) (i : ∀ σ H Q, t' σ H Q → t σ H Q) : PI X tg e t' := ⟨fun pins s σ H Q I q => h.run pins s σ H Q I (i σ H Q q)⟩
theorem walk_list {K : PySem.W.Frag} {F : Hp} {l : Addr} {vs : List V} {xs : List PyData} (fa : F l = some (.lst vs)) (la : xs.length ≤ 1000000) (pa : Rps F vs xs) : Walk W (Itl K l) F xs where
  stop := fun i H s h => ⟨vs, SqL.of (s _ _ fa), by rw [rps_len pa]; exact h⟩
  go := fun i H s h => by
    obtain ⟨v, hv, _⟩ := rps_get pa (List.getElem?_eq_getElem h)
    exact ⟨vs, v, SqL.of (s _ _ fa), hv⟩
  yld := fun i H x H' d ω F1 M hw s hd hy => by
    obtain ⟨rfl, hy⟩ := hy
    obtain ⟨v, hv, pv⟩ := rps_get pa hd
    have e := hy vs (SqL.of (hw.fh _ _ (s _ _ fa)))
    rw [hv] at e; cases e
    exact ⟨F1, hw, Ex.refl _ _ _, rp_sub s pv⟩
  len := la
theorem walk_tup {K : PySem.W.Frag} {F : Hp} {l : Addr} {vs : List V} {xs : List PyData} (fa : F l = some (.tup vs)) (la : xs.length ≤ 1000000) (pa : Rps F vs xs) : Walk W (Itt K l) F xs where
  stop := fun i H s h => ⟨vs, SqT.of (s _ _ fa), by rw [rps_len pa]; exact h⟩
  go := fun i H s h => by
    obtain ⟨v, hv, _⟩ := rps_get pa (List.getElem?_eq_getElem h)
    exact ⟨vs, v, SqT.of (s _ _ fa), hv⟩
  yld := fun i H x H' d ω F1 M hw s hd hy => by
    obtain ⟨rfl, hy⟩ := hy
    obtain ⟨v, hv, pv⟩ := rps_get pa hd
    have e := hy vs (SqT.of (hw.fh _ _ (s _ _ fa)))
    rw [hv] at e; cases e
    exact ⟨F1, hw, Ex.refl _ _ _, rp_sub s pv⟩
  len := la
/-- a list or a tuple, walked -/
def iSeq (K : PySem.W.Frag) (tl : TE) : TI := fun σ H R => tl σ H fun x H1 => ∃ a, x = .ref a ∧ (((∃ xs, SqL K H1 a xs) ∧ R (Itl K a) H1) ∨ ((∃ xs, SqT K H1 a xs) ∧ R (Itt K a) H1))
theorem pi_seq {l : Expr} {tl : TE} (hl : PE X l tl) : PI X tg l (iSeq X.K tl) := by
  refine ⟨fun pins s σ H R I h => ?_⟩
  refine thn (hl.run pins s σ H _ I h) fun v s1 ⟨x, H1, I1, r1, q1⟩ => ?_
  obtain ⟨a, e, q1⟩ := q1
  subst e
  cases r1
  have hf : ∀ b ∈ [s1.heap.objs.size], FpOk X pins H1 b := fun b hb => by
    have e : b = s1.heap.objs.size := by simpa using hb
    subst e
    exact I1.fpOk (Nat.le_refl _) (I1.hok.fresh (Nat.le_refl _))
  rcases q1 with ⟨⟨xs, hq⟩, q⟩ | ⟨⟨xs, hq⟩, q⟩
  · obtain ⟨its, rv, p, hz⟩ := I1.list hq
    exact wpAny_pyIter_list p.isList ⟨s1.heap.objs.size, [s1.heap.objs.size], _, _, H1, rfl, I1.kept (t' := s1.toks) fun b o e => Heap.get?_push_of_some _ e, turn_list a _, ⟨_, Heap.get?_push_size _ rfl, rfl, rfl⟩, hf, q⟩
  · obtain ⟨its, rv, p, hz⟩ := I1.tuple hq
    exact wpAny_pyIter_tuple (show s1.heap.IsTuple a its.toArray from p) ⟨s1.heap.objs.size, [s1.heap.objs.size], _, _, H1, rfl, I1.kept (t' := s1.toks) fun b o e => Heap.get?_push_of_some _ e, turn_tuple a _, ⟨_, Heap.get?_push_size _ rfl, rfl, rfl⟩, hf, q⟩
def dSeqI (t : TD Ω) : TDi Ω := fun E env ω Q => t E env ω fun x ω1 => match x with
  | .d (.list xs) => Q xs ω1
  | .d (.tuple xs) => Q xs ω1
  | _ => False
theorem di_seq (ha : PE X a (tOf W C ta)) : PI X tg a (iOf W C (dSeqI ta)) := by
  refine pi_imp (pi_seq ha) fun σ H R h => ?_
  obtain ⟨env, ω, F, M, Ec, Qc, j, ht, hx, k⟩ := h
  refine ⟨env, ω, F, M, Ec, _, j, ht, hx, fun x ω1 v1 H1 F1 M1 q1 hw1 ex1 r1 => ?_⟩
  split at q1
  · obtain ⟨a, vs, rfl, fa, la, pa⟩ := rp_lst r1
    exact ⟨a, rfl, .inl ⟨⟨vs, SqL.of (hw1.fh _ _ fa)⟩, k _ _ _ _ _ _ q1 hw1 ex1 (walk_list fa la pa)⟩⟩
  · obtain ⟨a, vs, rfl, fa, la, pa⟩ := rp_tup r1
    exact ⟨a, rfl, .inr ⟨⟨vs, SqT.of (hw1.fh _ _ fa)⟩, k _ _ _ _ _ _ q1 hw1 ex1 (walk_tup fa la pa)⟩⟩
  · exact q1.elim
/-- ints from lo on -/
def rngD (lo : Int) (n : Nat) : List PyData := (List.range n).map fun (i : Nat) => .int (lo + (i : Int))
theorem rngD_len (lo : Int) (n : Nat) : (rngD lo n).length = n := by unfold rngD; simp
theorem rngD_get {lo : Int} {n i : Nat} {d : PyData} (h : (rngD lo n)[i]? = some d) : d = .int (lo + i) := by
  unfold rngD at h
  rw [List.getElem?_map, Option.map_eq_some_iff] at h
  obtain ⟨j, hj, rfl⟩ := h
  have hi : i < n := by simpa using (List.getElem?_eq_some_iff.mp hj).1
  rw [List.getElem?_range hi] at hj
  cases hj
  rfl
theorem walk_rng (lo : Int) (n : Nat) (F : Hp) (hn : n ≤ 1000000) : Walk W (Itr lo n) F (rngD lo n) where
  stop := fun i H s h => by rw [rngD_len] at h; exact h
  go := fun i H s h => by rw [rngD_len] at h; exact h
  yld := fun i H x H' d ω F1 M hw s hd hy => by
    obtain ⟨rfl, rfl⟩ := hy
    rw [rngD_get hd]
    exact ⟨F1, hw, Ex.refl _ _ _, .int _⟩
  len := by rw [rngD_len]; exact hn
def dRngA (ts : TDa Ω) : TDi Ω := fun E env ω Q => ts E env ω fun ds ω1 => match ds with
  | [.d (.int n)] => (n ≤ 1000000 ∧ -1000000 ≤ n) ∧ Q (rngD 0 n.toNat) ω1
  | _ => False
def dRngB (ts : TDa Ω) : TDi Ω := fun E env ω Q => ts E env ω fun ds ω1 => match ds with
  | [.d (.int m), .d (.int n)] => (n ≤ 1000000 ∧ -1000000 ≤ n ∧ m ≤ 1000000 ∧ 0 ≤ m) ∧ Q (rngD m (n - m).toNat) ω1
  | _ => False
variable {es : List Expr} {ts : TDa Ω}
theorem di_range1 {p : Pos} (hg : Gl X "range") (hm : X.mg "range" = none) (ha : PA X [a] (aOf W C ts)) (hs : starEach [a] X.env = [(false, eval a X.env)]) : PI X tg (.Call (.Name "range" p) [a] [] pos) (iOf W C (dRngA ts)) := by
  refine pi_imp (pi_range1 hg hm ha hs) fun σ H R h => ?_
  obtain ⟨env, ω, F, M, Ec, Qc, j, ht, hx, k⟩ := h
  refine ⟨env, ω, F, M, Ec, _, j, ht, hx, fun ds ω1 vs H1 F1 M1 q1 hw1 ex1 r1 => ?_⟩
  split at q1
  · obtain ⟨v, rfl, r⟩ := rds1 r1
    cases rp_int r
    exact ⟨_, rfl, by omega, by omega, k _ _ _ _ _ _ q1.2 hw1 ex1 (walk_rng _ _ _ (by omega))⟩
  · exact q1.elim
theorem di_range2 {p : Pos} (hg : Gl X "range") (hm : X.mg "range" = none) (ha : PA X [a, b] (aOf W C ts)) (hs : starEach [a, b] X.env = [(false, eval a X.env), (false, eval b X.env)]) (hs2 : starEach [b] X.env = [(false, eval b X.env)]) : PI X tg (.Call (.Name "range" p) [a, b] [] pos) (iOf W C (dRngB ts)) := by
  refine pi_imp (pi_range2 hg hm ha hs hs2) fun σ H R h => ?_
  obtain ⟨env, ω, F, M, Ec, Qc, j, ht, hx, k⟩ := h
  refine ⟨env, ω, F, M, Ec, _, j, ht, hx, fun ds ω1 vs H1 F1 M1 q1 hw1 ex1 r1 => ?_⟩
  split at q1
  · obtain ⟨v, u, rfl, r, r'⟩ := rds2 r1
    cases rp_int r; cases rp_int r'
    exact ⟨_, _, rfl, ⟨by omega, by omega, by omega, by omega⟩, k _ _ _ _ _ _ q1.2 hw1 ex1 (walk_rng _ _ _ (by omega))⟩
  · exact q1.elim
/-! zip of two lists or two tuples -/
def zipD : List PyData → List PyData → List PyData
  | x :: xs, y :: ys => .tuple [x, y] :: zipD xs ys
  | _, _ => []
theorem zipD_len : ∀ xs ys : List PyData, (zipD xs ys).length = min xs.length ys.length
  | x :: xs, y :: ys => by simp only [zipD, List.length_cons, zipD_len xs ys]; omega
  | [], _ => by simp [zipD]
  | _ :: _, [] => by simp [zipD]
theorem zipD_get : ∀ {xs ys : List PyData} {i : Nat} {d : PyData}, (zipD xs ys)[i]? = some d → ∃ x y, xs[i]? = some x ∧ ys[i]? = some y ∧ d = .tuple [x, y]
  | x :: xs, y :: ys, 0, d, h => by simp [zipD] at h; exact ⟨x, y, rfl, rfl, h.symm⟩
  | x :: xs, y :: ys, i + 1, d, h => by simpa using zipD_get (xs := xs) (ys := ys) (i := i) (by simpa [zipD] using h)
  | [], _, _, _, h => by simp [zipD] at h
  | _ :: _, [], _, _, h => by simp [zipD] at h
def dZip (ts : TDa Ω) : TDi Ω := fun E env ω Q => ts E env ω fun ds ω1 => match ds with
  | [.d (.list xs), .d (.list ys)] => Q (zipD xs ys) ω1
  | [.d (.tuple xs), .d (.tuple ys)] => Q (zipD xs ys) ω1
  | _ => False
theorem walk_zip {K : PySem.W.Frag} {F : Hp} {l b : Addr} {vs us : List V} {xs ys : List PyData} (fa : F l = some (.lst vs)) (la : xs.length ≤ 1000000) (pa : Rps F vs xs) (fb : F b = some (.lst us)) (pb : Rps F us ys) : Walk W (Itz K l b) F (zipD xs ys) where
  stop := fun i H s h => ⟨vs, us, SqL.of (s _ _ fa), SqL.of (s _ _ fb), by rw [zipD_len] at h; rw [rps_len pa, rps_len pb]; omega⟩
  go := fun i H s h => by
    obtain ⟨x, y, hx, hy, _⟩ := zipD_get (List.getElem?_eq_getElem h)
    obtain ⟨v, hv, _⟩ := rps_get pa hx
    obtain ⟨u, hu, _⟩ := rps_get pb hy
    exact ⟨vs, us, v, u, SqL.of (s _ _ fa), SqL.of (s _ _ fb), hv, hu⟩
  yld := fun i H x H' d ω F1 M hw s hd hy => by
    obtain ⟨T, v0, u0, rfl, nT, rfl, h1, h2⟩ := hy
    obtain ⟨x, y, hx, hy, rfl⟩ := zipD_get hd
    obtain ⟨v, hv, pv⟩ := rps_get pa hx
    obtain ⟨u, hu, pu⟩ := rps_get pb hy
    have e := h1 vs (SqL.of (hw.fh _ _ (s _ _ fa)))
    rw [hv] at e
    have e2 := h2 us (SqL.of (hw.fh _ _ (s _ _ fb)))
    rw [hu] at e2
    obtain ⟨a1, a2⟩ := alloc (o := .tup [v, u]) hw nT
    cases e; cases e2
    exact ⟨_, a1, a2, .tup upd_same (by simp) (.cons (rp_sub a2.f0 (rp_sub s pv)) (.cons (rp_sub a2.f0 (rp_sub s pu)) .nil))⟩
  len := by rw [zipD_len]; omega
theorem walk_zipT {K : PySem.W.Frag} {F : Hp} {l b : Addr} {vs us : List V} {xs ys : List PyData} (fa : F l = some (.tup vs)) (la : xs.length ≤ 1000000) (pa : Rps F vs xs) (fb : F b = some (.tup us)) (pb : Rps F us ys) : Walk W (RZ.ItzT K l b) F (zipD xs ys) where
  stop := fun i H s h => ⟨vs, us, SqT.of (s _ _ fa), SqT.of (s _ _ fb), by rw [zipD_len] at h; rw [rps_len pa, rps_len pb]; omega⟩
  go := fun i H s h => by
    obtain ⟨x, y, hx, hy, _⟩ := zipD_get (List.getElem?_eq_getElem h)
    obtain ⟨v, hv, _⟩ := rps_get pa hx
    obtain ⟨u, hu, _⟩ := rps_get pb hy
    exact ⟨vs, us, v, u, SqT.of (s _ _ fa), SqT.of (s _ _ fb), hv, hu⟩
  yld := fun i H x H' d ω F1 M hw s hd hy => by
    obtain ⟨T, v0, u0, rfl, nT, rfl, h1, h2⟩ := hy
    obtain ⟨x, y, hx, hy, rfl⟩ := zipD_get hd
    obtain ⟨v, hv, pv⟩ := rps_get pa hx
    obtain ⟨u, hu, pu⟩ := rps_get pb hy
    have e := h1 vs (SqT.of (hw.fh _ _ (s _ _ fa)))
    rw [hv] at e
    have e2 := h2 us (SqT.of (hw.fh _ _ (s _ _ fb)))
    rw [hu] at e2
    obtain ⟨a1, a2⟩ := alloc (o := .tup [v, u]) hw nT
    cases e; cases e2
    exact ⟨_, a1, a2, .tup upd_same (by simp) (.cons (rp_sub a2.f0 (rp_sub s pv)) (.cons (rp_sub a2.f0 (rp_sub s pu)) .nil))⟩
  len := by rw [zipD_len]; omega
theorem di_zip {p tpos : Pos} {elts : List Expr} {kk : Nat} (hc : X.calm = true) (hg : Gl X "zip") (hm : X.mg "zip" = none) (ha : PA X [a, b] (aOf W C ts)) (hs : starEach [a, b] X.env = [(false, eval a X.env), (false, eval b X.env)]) (hs2 : starEach [b] X.env = [(false, eval b X.env)]) :
    PI X (.Tuple elts kk tpos) (.Call (.Name "zip" p) [a, b] [] pos) (iOf W C (dZip ts)) := by
  refine pi_imp (RZ.pi_zipA hg hm ha (by rw [hs, hs2]) (by rw [hs2]; rfl)) fun σ H R h => ?_
  obtain ⟨env, ω, F, M, Ec, Qc, j, ht, hx, k⟩ := h
  refine ⟨env, ω, F, M, Ec, _, j, ht, hx, fun ds ω1 vs H1 F1 M1 q1 hw1 ex1 r1 => ?_⟩
  split at q1
  · obtain ⟨v, u, rfl, r, r'⟩ := rds2 r1
    obtain ⟨a, vs, rfl, fa, la, pa⟩ := rp_lst r
    obtain ⟨b, us, rfl, fb, lb, pb⟩ := rp_lst r'
    exact ⟨a, b, vs, us, rfl, .inl ⟨SqL.of (hw1.fh _ _ fa), SqL.of (hw1.fh _ _ fb), k _ _ _ _ _ _ q1 hw1 ex1 (walk_zip fa la pa fb pb)⟩⟩
  · obtain ⟨v, u, rfl, r, r'⟩ := rds2 r1
    obtain ⟨a, vs, rfl, fa, la, pa⟩ := rp_tup r
    obtain ⟨b, us, rfl, fb, lb, pb⟩ := rp_tup r'
    exact ⟨a, b, vs, us, rfl, .inr ⟨SqT.of (hw1.fh _ _ fa), SqT.of (hw1.fh _ _ fb), k _ _ _ _ _ _ q1 hw1 ex1 (walk_zipT fa la pa fb pb)⟩⟩
  · exact q1.elim
end
end Q
namespace Q
open PySem PySem.Spec PyProof.Rows L2

/-! ### patterns: a name, or a tuple of patterns -/
inductive Pat where
  | nm (i : Nat)
  | nil
  | cons (p r : Pat)
/-! bind: pattern against data; a pattern that begins with cons or nil is a tuple's -/
mutual
def bindP : Pat → PyData → List S → Option (List S)
  | .nm i, x, env => some (env.set i (.d x))
  | .nil, .tuple xs, env => bindPs .nil xs env
  | .cons p r, .tuple xs, env => bindPs (.cons p r) xs env
  | _, _, _ => none
def bindPs : Pat → List PyData → List S → Option (List S)
  | .nil, [], env => some env
  | .cons p r, x :: xs, env => match bindP p x env with
    | some env1 => bindPs r xs env1
    | none => none
  | _, _, _ => none
end
def Pat.len : Pat → Nat
  | .cons _ r => r.len + 1
  | _ => 0
def Pat.slots : Pat → List Nat
  | .nm i => [i]
  | .nil => []
  | .cons p r => p.slots ++ r.slots
mutual
def gP (K : PySem.W.Frag) : Pat → TG
  | .nm i => gName i
  | .nil => gTup K 0 gNil
  | .cons p r => gTup K (r.len + 1) (gCons (gP K p) (gPs K r))
def gPs (K : PySem.W.Frag) : Pat → TGs
  | .cons p r => gCons (gP K p) (gPs K r)
  | _ => gNil
end
section
variable {Ω : Type} {W : Ω → Hp → Prop} {K : PySem.W.Frag}
theorem J.setD {env : List S} {ω : Ω} {F M H : Hp} {σ : L2.St} (j : J W env ω F M σ H) {i : Nat} {v : V} {x : PyData} (r : Rp F v x) : J W (env.set i (.d x)) ω F M (σ.set i (some v)) H := by
  refine ⟨j.hw, fun k s e => ?_, fun k l xs ys p n e1 e2 e3 e4 => ?_⟩
  · by_cases h : i = k
    · subst h
      have hi : i < env.length := by
        have := (List.getElem?_eq_some_iff.mp e).1
        simpa using this
      rw [List.getElem?_set_self hi] at e
      cases e
      obtain ⟨ov, e1, _⟩ := j.sl i _ (List.getElem?_eq_getElem hi)
      have hs : i < σ.length := (List.getElem?_eq_some_iff.mp e1).1
      exact ⟨some v, List.getElem?_set_self hs, v, rfl, r⟩
    · rw [List.getElem?_set_ne h] at e
      obtain ⟨ov, e1, q⟩ := j.sl k s e
      exact ⟨ov, by rw [List.getElem?_set_ne h]; exact e1, q⟩
  · have h1 : i ≠ k := fun z => by
      subst z
      by_cases hi : i < env.length
      · rw [List.getElem?_set_self hi] at e1; cases e1
      · rw [List.getElem?_eq_none (by simpa using hi)] at e1; cases e1
    have h2 : i ≠ l := fun z => by
      subst z
      by_cases hi : i < env.length
      · rw [List.getElem?_set_self hi] at e2; cases e2
      · rw [List.getElem?_eq_none (by simpa using hi)] at e2; cases e2
    rw [List.getElem?_set_ne h1] at e1 e3
    rw [List.getElem?_set_ne h2] at e2 e4
    exact j.di k l xs ys p n e1 e2 e3 e4
theorem J.setN {env : List S} {ω : Ω} {F M H : Hp} {σ : L2.St} (j : J W env ω F M σ H) {i : Nat} {ov : Option V} : J W (env.set i .no) ω F M (σ.set i ov) H := by
  refine ⟨j.hw, fun k s e => ?_, fun k l xs ys p n e1 e2 e3 e4 => ?_⟩
  · by_cases h : i = k
    · subst h
      have hi : i < env.length := by
        have := (List.getElem?_eq_some_iff.mp e).1
        simpa using this
      rw [List.getElem?_set_self hi] at e
      cases e
      obtain ⟨ov', e1, _⟩ := j.sl i _ (List.getElem?_eq_getElem hi)
      have hs : i < σ.length := (List.getElem?_eq_some_iff.mp e1).1
      exact ⟨ov, List.getElem?_set_self hs, trivial⟩
    · rw [List.getElem?_set_ne h] at e
      obtain ⟨ov, e1, q⟩ := j.sl k s e
      exact ⟨ov, by rw [List.getElem?_set_ne h]; exact e1, q⟩
  · have h1 : i ≠ k := fun z => by
      subst z
      by_cases hi : i < env.length
      · rw [List.getElem?_set_self hi] at e1; cases e1
      · rw [List.getElem?_eq_none (by simpa using hi)] at e1; cases e1
    have h2 : i ≠ l := fun z => by
      subst z
      by_cases hi : i < env.length
      · rw [List.getElem?_set_self hi] at e2; cases e2
      · rw [List.getElem?_eq_none (by simpa using hi)] at e2; cases e2
    rw [List.getElem?_set_ne h1] at e1 e3
    rw [List.getElem?_set_ne h2] at e2 e4
    exact j.di k l xs ys p n e1 e2 e3 e4
/-- the slots that a pattern leaves alone -/
def Off (l : List Nat) (σ σ' : L2.St) : Prop := σ'.length = σ.length ∧ ∀ i, i ∉ l → σ'[i]? = σ[i]?
theorem Off.refl (l : List Nat) (σ : L2.St) : Off l σ σ := ⟨rfl, fun _ _ => rfl⟩
theorem bindPs_len : ∀ {r : Pat} {xs : List PyData} {env env' : List S}, bindPs r xs env = some env' → xs.length = r.len
  | .nil, [], _, _, _ => rfl
  | .nil, _ :: _, _, _, h => by simp [bindPs] at h
  | .cons p r, [], _, _, h => by simp [bindPs] at h
  | .cons p r, x :: xs, env, env', h => by
    simp only [bindPs] at h
    split at h
    · simp only [List.length_cons, Pat.len]
      rw [bindPs_len h]
    · cases h
  | .nm _, _, _, _, h => by simp [bindPs] at h
mutual
theorem pat_ok {ω : Ω} {F M H : Hp} : ∀ (p : Pat) (x : PyData) (v : V) (env env' : List S) (σ : L2.St) (Q : L2.St → Hp → Prop), J W env ω F M σ H → Rp F v x → bindP p x env = some env' → (∀ σ', J W env' ω F M σ' H → Off p.slots σ σ' → Q σ' H) → gP K p v σ H Q
  | .nm i, x, v, env, env', σ, Q, j, r, e, k => by
    simp only [bindP, Option.some.injEq] at e
    subst e
    simp only [gP]
    refine k _ (j.setD r) ⟨by simp, fun n hn => ?_⟩
    have : i ≠ n := fun z => hn (by simp [Pat.slots, z])
    rw [List.getElem?_set_ne this]
  | .nil, x, v, env, env', σ, Q, j, r, e, k => by
    cases x with
    | tuple xs =>
      simp only [bindP] at e
      obtain ⟨a, vs, rfl, fa, la, pa⟩ := rp_tup r
      simp only [gP]
      refine ⟨a, vs, rfl, SqT.of (j.hw.fh _ _ fa), ?_, ?_⟩
      · rw [rps_len pa, bindPs_len e]; rfl
      · have := pats_ok .nil xs vs env env' σ Q j pa e k
        simpa only [gPs] using this
    | _ => simp [bindP] at e
  | .cons p q, x, v, env, env', σ, Q, j, r, e, k => by
    cases x with
    | tuple xs =>
      simp only [bindP] at e
      obtain ⟨a, vs, rfl, fa, la, pa⟩ := rp_tup r
      simp only [gP]
      refine ⟨a, vs, rfl, SqT.of (j.hw.fh _ _ fa), ?_, ?_⟩
      · rw [rps_len pa, bindPs_len e]; rfl
      · have := pats_ok (.cons p q) xs vs env env' σ Q j pa e k
        simpa only [gPs] using this
    | _ => simp [bindP] at e
theorem pats_ok {ω : Ω} {F M H : Hp} : ∀ (p : Pat) (xs : List PyData) (vs : List V) (env env' : List S) (σ : L2.St) (Q : L2.St → Hp → Prop), J W env ω F M σ H → Rps F vs xs → bindPs p xs env = some env' → (∀ σ', J W env' ω F M σ' H → Off p.slots σ σ' → Q σ' H) → gPs K p vs σ H Q
  | .nil, [], vs, env, env', σ, Q, j, r, e, k => by
    cases r
    simp only [bindPs, Option.some.injEq] at e
    subst e
    simp only [gPs]
    exact ⟨rfl, k σ j (Off.refl _ _)⟩
  | .nil, _ :: _, _, _, _, _, _, _, _, e, _ => by simp [bindPs] at e
  | .cons p q, [], _, _, _, _, _, _, _, e, _ => by simp [bindPs] at e
  | .cons p q, x :: xs, vs, env, env', σ, Q, j, r, e, k => by
    cases r with
    | cons r1 r2 =>
      simp only [bindPs] at e
      split at e
      · rename_i env1 e1
        simp only [gPs]
        refine ⟨_, _, rfl, pat_ok p x _ env env1 σ _ j r1 e1 fun σ1 j1 o1 => ?_⟩
        refine pats_ok q xs _ env1 env' σ1 Q j1 r2 e fun σ2 j2 o2 => k σ2 j2 ⟨o2.1.trans o1.1, fun i hi => ?_⟩
        have h1 : i ∉ p.slots := fun z => hi (by simp [Pat.slots, z])
        have h2 : i ∉ q.slots := fun z => hi (by simp [Pat.slots, z])
        rw [o2.2 i h2, o1.2 i h1]
      · cases e
  | .nm _, _, _, _, _, _, _, _, _, e, _ => by simp [bindPs] at e
end
/-! wiped slots -/
def wipeE (env : List S) : List Nat → List S
  | [] => env
  | v :: vs => (wipeE env vs).set v .no
theorem J.wipe {env : List S} {ω : Ω} {F M H : Hp} {σ : L2.St} (j : J W env ω F M σ H) : ∀ vs : List Nat, J W (wipeE env vs) ω F M (L2.wipe σ vs) H
  | [] => j
  | v :: vs => by
    unfold wipeE L2.wipe
    exact (J.wipe j vs).setN
theorem wipe_get (σ : L2.St) (i : Nat) : ∀ vs : List Nat, (L2.wipe σ vs)[i]? = if i ∈ vs then (if i < σ.length then some none else none) else σ[i]?
  | [] => by simp [L2.wipe]
  | v :: vs => by
    unfold L2.wipe
    by_cases h : v = i
    · subst h
      by_cases hl : v < σ.length
      · rw [List.getElem?_set_self (by rw [wipe_length]; exact hl)]; simp [hl]
      · rw [List.getElem?_eq_none (by rw [List.length_set, wipe_length]; omega)]; simp [hl]
    · rw [List.getElem?_set_ne h, wipe_get σ i vs]
      have : (i ∈ v :: vs) ↔ i ∈ vs := by simp [Ne.symm h]
      simp only [this]
theorem wipe_off {σ σ' : L2.St} {l vs : List Nat} (h : Off l (L2.wipe σ vs) σ') (s : ∀ i ∈ l, i ∈ vs) : L2.wipe σ' vs = L2.wipe σ vs := by
  refine List.ext_getElem? fun i => ?_
  rw [wipe_get, wipe_get]
  have hl : σ'.length = σ.length := by rw [h.1, wipe_length]
  by_cases hi : i ∈ vs
  · rw [if_pos hi, if_pos hi, hl]
  · rw [if_neg hi, if_neg hi, h.2 i (fun z => hi (s i z)), wipe_get, if_neg hi]
end

/-! ### comprehensions -/
section
variable {Ω : Type}
/-- the turns of a comprehension -/
def compL (p : Pat) (t : TDb Ω) (e : TD Ω) (env : List S) : List PyData → List PyData → Ω → (List PyData → Ω → Prop) → Prop
  | [], acc, ω, Q => Q acc ω
  | x :: xs, acc, ω, Q => match bindP p x env with
    | some env1 => t (fun _ _ => False) env1 ω fun b ω1 => match b with
      | true => e (fun _ _ => False) env1 ω1 fun y ω2 => match y with
        | .d z => compL p t e env xs (acc ++ [z]) ω2 Q
        | _ => False
      | false => compL p t e env xs acc ω1 Q
    | none => False
def dComp (own : Bool) (it : TDi Ω) (p : Pat) (t : TDb Ω) (e : TD Ω) : TD Ω := fun E env ω Q => it E env ω fun ds ω1 => compL p t e (wipeE env p.slots) ds [] ω1 fun zs ω2 => Q (if own = true then .own zs else .d (.list zs)) ω2
def dYes : TDb Ω := fun _ _ ω Q => Q true ω
end
section
variable {Ω : Type} {W : Ω → Hp → Prop} {C : Cxx} {X : Cx}
/-- no exception is taken -/
@[reducible] def Cxx.none (C : Cxx) : Cxx := { C with wx := fun _ _ _ => False }
theorem Ex.at {H F M H' F' M' : Hp} {p : Addr} {o : HO} (x : Ex H F M H' F' M') (n : H p = none) : Ex H F M (upd H' p o) F' M' where
  keep := fun a u e m => by rw [upd_ne (ne_of_none e n)]; exact x.keep a u e m
  f0 := x.f0
  nf := x.nf
  nm := x.nm
  al := fun a e => by
    by_cases z : a = p
    · rw [z]; exact n
    · rw [upd_ne z] at e; exact x.al a e
theorem Ex.frz {H F M H' F' M' : Hp} {p : Addr} {o : HO} (x : Ex H F M H' F' M') (n : H p = none) (f : F' p = none) : Ex H F M H' (upd F' p o) M' where
  keep := x.keep
  f0 := fun a u e => by rw [upd_ne (ne_of_none (x.f0 a u e) f)]; exact x.f0 a u e
  nf := fun a u e => by
    by_cases z : a = p
    · rw [z]; exact .inr n
    · rw [upd_ne z] at e; exact x.nf a u e
  nm := x.nm
  al := x.al
theorem Hw.frz {ω : Ω} {F M H : Hp} {p : Addr} {o : HO} (h : Hw W ω F M H) (e : H p = some o) (m : M p = none) : Hw W ω (upd F p o) M H where
  fh := fun a u q => by
    by_cases z : a = p
    · rw [z] at q ⊢; rw [upd_same] at q; rw [e]; exact q
    · rw [upd_ne z] at q; exact h.fh a u q
  mh := h.mh
  fm := fun a u q => by
    by_cases z : a = p
    · rw [z]; exact m
    · rw [upd_ne z] at q; exact h.fm a u q
  w := h.w
theorem Hw.at {ω : Ω} {F M H : Hp} {p : Addr} {o : HO} (h : Hw W ω F M H) (f : F p = none) (m : M p = none) : Hw W ω F M (upd H p o) where
  fh := fun a u w => by rw [upd_ne (fun z => by rw [z, f] at w; cases w)]; exact h.fh a u w
  mh := fun a u w => by rw [upd_ne (fun z => by rw [z, m] at w; cases w)]; exact h.mh a u w
  fm := h.fm
  w := h.w
theorem imp_comp {K : PySem.W.Frag} {own : Bool} {it : TDi Ω} {p : Pat} {t : TDb Ω} {e : TD Ω} {vs : List Nat} (hv : vs = p.slots) (σ : L2.St) (H : Hp) (Q : VK) (h : tOf W C (dComp own it p t e) σ H Q) : tLc (iOf W C it) (gP K p) (bOf W C.none t) (tOf W C.none e) vs σ H Q := by
  subst hv
  obtain ⟨env, ω, F, M, Ec, Qc, j, ht, hx, k⟩ := h
  refine ⟨env, ω, F, M, Ec, _, j, ht, hx, fun ds ω1 Jt H1 F1 M1 q1 hw1 ex1 wk D nD => ?_⟩
  obtain ⟨hw2, ex2, nF, nM⟩ := allocO (o := .lst []) hw1 nD
  have hD0 : H D = none := ex1.al _ nD
  refine ⟨fun i m H2 => ∃ (F2 M2 : Hp) (ω2 : Ω) (acc : List PyData) (us : List V), m = ds.length - i ∧ i ≤ ds.length ∧ Hw W ω2 F2 M2 H2 ∧ Ex H1 F1 M1 H2 F2 M2 ∧ H2 D = some (.lst us) ∧ F2 D = none ∧ M2 D = none ∧ Rps F2 us acc ∧ acc.length ≤ i ∧
    compL p t e (wipeE env p.slots) (ds.drop i) acc ω2 fun zs ω3 => Qc (if own = true then .own zs else .d (.list zs)) ω3,
    ⟨ds.length, F1, M1, ω1, [], [], by simp, Nat.zero_le _, hw2, ex2, upd_same, nF, nM, .nil, Nat.le_refl _, q1⟩, ?_⟩
  rintro i m H2 ⟨F2, M2, ω2, acc, us, rfl, hi, hw3, ex3, hD, fD, mD, pu, hl, q⟩
  have exx := ex1.trans ex3
  have sub1 : Sub F1 F2 := ex3.f0
  have subH : Sub F1 H2 := fun a o z => hw3.fh _ _ (sub1 a o z)
  have hlen : us.length = acc.length := rps_len pu
  have wl := wk.len
  by_cases hlt : i < ds.length
  · refine .inr ⟨wk.go i H2 subH hlt, fun H' => ∃ (F2 M2 : Hp) (ω2 : Ω) (acc : List PyData) (us : List V), Hw W ω2 F2 M2 H' ∧ Ex H1 F1 M1 H' F2 M2 ∧ H' D = some (.lst us) ∧ F2 D = none ∧ M2 D = none ∧ Rps F2 us acc ∧ acc.length ≤ i + 1 ∧
      compL p t e (wipeE env p.slots) (ds.drop (i + 1)) acc ω2 fun zs ω3 => Qc (if own = true then .own zs else .d (.list zs)) ω3, fun H' ⟨F4, M4, ω4, acc4, us4, a1, a2, a3, a4, a5, a6, a7, a8⟩ => ⟨ds.length - (i + 1), by omega, F4, M4, ω4, acc4, us4, rfl, hlt, a1, a2, a3, a4, a5, a6, a7, a8⟩, fun x H3 hy => ?_⟩
    obtain ⟨d, hd⟩ : ∃ d, ds[i]? = some d := ⟨ds[i], List.getElem?_eq_getElem hlt⟩
    obtain ⟨F3, hw4, ex4, px⟩ := wk.yld i H2 x H3 d ω2 F2 M2 hw3 sub1 hd hy
    have e4 : ds.drop i = d :: ds.drop (i + 1) := by
      rw [List.drop_eq_getElem_cons hlt]
      have : ds[i] = d := Option.some.inj ((List.getElem?_eq_getElem hlt).symm.trans hd)
      rw [this]
    rw [e4] at q
    unfold compL at q
    split at q
    · rename_i env1 eb
      have j3 : J W env ω2 F3 M2 σ H3 := j.step hw4 (exx.trans ex4)
      refine pat_ok p d x _ env1 _ _ (j3.wipe p.slots) px eb fun σ2 j4 o => ⟨wipe_off o (fun _ z => z), ?_⟩
      refine ⟨env1, ω2, F3, M2, _, _, j4, q, fun _ _ _ _ _ z => z.elim, fun b ω5 H5 F5 M5 q5 hw5 ex5 => ?_⟩
      have hD5 : H5 D = some (.lst us) := ex5.keep _ _ (ex4.keep _ _ hD mD) mD
      have fD5 : F5 D = none := ex5.fnone (ex4.keep _ _ hD mD) (ex4.fnone hD fD)
      have mD5 : M5 D = none := ex5.mnone (ex4.keep _ _ hD mD) mD
      have ex35 := (ex3.trans ex4).trans ex5
      cases b with
      | true =>
        refine iteT ⟨env1, ω5, F5, M5, _, _, j4.step hw5 ex5, q5, fun _ _ _ _ _ z => z.elim, fun y ω6 v6 H6 F6 M6 q6 hw6 ex6 r6 => ?_⟩
        cases y with
        | d z =>
          have hD6 : H6 D = some (.lst us) := ex6.keep _ _ hD5 mD5
          have fD6 : F6 D = none := ex6.fnone hD5 fD5
          have mD6 : M6 D = none := ex6.mnone hD5 mD5
          have ex36 := ex35.trans ex6
          exact ⟨us, hD6, by rw [sizeLine_eq]; omega, F6, M6, ω6, acc ++ [z], us ++ [v6], hw6.at fD6 mD6, ex36.at nD, upd_same, fD6, mD6, rps_app (rps_sub (fun a o w => ex6.f0 a o (ex5.f0 a o (ex4.f0 a o w))) pu) (.cons r6 .nil), by rw [List.length_append, List.length_singleton]; omega, q6⟩
        | _ => exact q6.elim
      | false =>
        exact iteF ⟨F5, M5, ω5, acc, us, hw5, ex35, hD5, fD5, mD5, rps_sub (fun a o w => ex5.f0 a o (ex4.f0 a o w)) pu, Nat.le_succ_of_le hl, q5⟩
    · exact q.elim
  · refine .inl ⟨wk.stop i H2 subH (by omega), ?_⟩
    rw [List.drop_eq_nil_of_le (by omega)] at q
    simp only [compL] at q
    cases own with
    | true => exact k _ _ _ _ _ _ q hw3 exx ⟨D, us, rfl, hD0, fD, mD, hD, by omega, pu⟩
    | false =>
      have z := exx.frz (o := .lst us) hD0 fD
      exact k _ _ _ _ _ _ q (hw3.frz hD mD) z (Rp.lst upd_same (by omega) (rps_sub (fun a o w => by rw [upd_ne (ne_of_none w fD)]; exact w) pu))
end
end Q
namespace Q
open PySem PySem.Spec PyProof.Rows L2

/-! ### calls of defs of the text -/
def noOwn : List D → Bool
  | [] => true
  | .own _ :: _ => false
  | _ :: r => noOwn r
section
variable {Ω : Type}
/-- a def's promise, from its pure one -/
def spOf (W : Ω → Hp → Prop) (cx : Nat → Value) (n : Nat) (sp : FSpec Ω) : Sp := fun vs H Q E => ∃ (F M : Hp) (ω : Ω) (ds : List D) (Qc : QD Ω) (Ec : XD Ω), Hw W ω F M H ∧ RDs H F M H vs ds ∧ ds.length = n ∧ sp ds ω Qc Ec ∧
  (∀ d ω' v H' F' M', Qc d ω' → Hw W ω' F' M' H' → Ex H F M H' F' M' → RD H F' M' H' v d → Q v H') ∧ (∀ c ω' H' F' M', Ec c ω' → Hw W ω' F' M' H' → Ex H F M H' F' M' → E (cx c) none H')
def dCallN (n : Nat) (sp : FSpec Ω) (a : TDa Ω) : TD Ω := fun E env ω Q => a E env ω fun ds ω1 => noOwn ds = true ∧ ds.length = n ∧ sp ds ω1 Q E
end
section
variable {Ω : Type} {W : Ω → Hp → Prop} {C : Cxx} {X : Cx} {a b c : Expr} {es : List Expr} {ta tb tc : TD Ω} {ts : TDa Ω} {pos p : Pos}
theorem rds_noOwn {H0 H1 F M H : Hp} : ∀ {ds : List D} {vs : List V}, noOwn ds = true → RDs H0 F M H vs ds → RDs H1 F M H vs ds
  | [], _, _, r => by cases r; exact .nil
  | .d x :: r, _, h, k => by cases k with | cons a b => exact .cons a (rds_noOwn (by simpa [noOwn] using h) b)
  | .r x :: r, _, h, k => by cases k with | cons a b => exact .cons a (rds_noOwn (by simpa [noOwn] using h) b)
  | .own _ :: _, _, h, _ => by simp [noOwn] at h
theorem imp_call {n : Nat} {sp : FSpec Ω} (σ : L2.St) (H : Hp) (Q : VK) (h : tOf W C (dCallN n sp ts) σ H Q) : aOf W C ts σ H fun vs H1 => spOf W C.cx n sp vs H1 Q C.wx := by
  obtain ⟨env, ω, F, M, Ec, Qc, j, ht, hx, k⟩ := h
  refine ⟨env, ω, F, M, Ec, _, j, ht, hx, fun ds ω1 vs H1 F1 M1 q1 hw1 ex1 r1 => ?_⟩
  obtain ⟨no, hn, q⟩ := q1
  exact ⟨F1, M1, ω1, ds, Qc, Ec, hw1, rds_noOwn no r1, hn, q, fun d ω' v H' F' M' q hw' ex' r' => k d ω' v H' F' M' q hw' (ex1.trans ex') (r'.back ex1.al), fun c ω' H' F' M' e hw' ex' => hx c ω' H' F' M' e hw' (ex1.trans ex')⟩
theorem de_call {x : Str} {f : Addr} {fd : FuncData} {ps : List Str} {lv : Nat} {sp : FSpec Ω} (Fn : FnOk X.prog X.w X.K X.mg X.base (L2.CX X.prog X.w) lv f fd ps (spOf W C.cx ps.length sp)) (hr : Room lv X.A) (hg : Gl X x) (hm : X.mg x = some (.ref f)) (hk : PySem.W.keepIn X.K (.ref f) = true) (hb : Binds X.K fd ps [])
    (tk : Takes X fun cls d _ H => C.wx cls d H) (ha : PA X (a :: es) (aOf W C ts)) (hdb : (x == ("__debug__" : Str)) = false) (he : starEach (a :: es) X.env = (false, eval a X.env) :: starEach es X.env) (hpl : (backTo pos (starEach es X.env)).any (·.1) = false) :
    PE X (.Call (.Name x p) (a :: es) [] pos) (tOf W C (dCallN ps.length sp ts)) := by
  refine pe_imp (pe_call (E := C.wx) Fn hr hg hm hk hb .nil (passes_call tk fun _ _ _ _ h => h) ha hdb he hpl) fun σ H Q h => ?_
  have z := imp_call σ H Q h
  obtain ⟨env, ω, F, M, Ec, Qc, j, ht, hx, k⟩ := z
  exact ⟨env, ω, F, M, Ec, Qc, j, ht, hx, fun ds ω' vs H' F' M' q hw ex r => by
    show spOf W C.cx ps.length sp (vs ++ []) H' Q C.wx
    rw [List.append_nil]
    exact k ds ω' vs H' F' M' q hw ex r⟩
theorem de_call0 {x : Str} {f : Addr} {fd : FuncData} {ps : List Str} {lv : Nat} {sp : FSpec Ω} (Fn : FnOk X.prog X.w X.K X.mg X.base (L2.CX X.prog X.w) lv f fd ps (spOf W C.cx ps.length sp)) (hr : Room lv X.A) (hg : Gl X x) (hm : X.mg x = some (.ref f)) (hk : PySem.W.keepIn X.K (.ref f) = true) (hb : Binds X.K fd ps [])
    (tk : Takes X fun cls d _ H => C.wx cls d H) (hdb : (x == ("__debug__" : Str)) = false) : PE X (.Call (.Name x p) [] [] pos) (tOf W C (dCallN ps.length sp dNil)) := by
  refine pe_imp (pe_call0 (E := C.wx) Fn hr hg hm hk hb .nil (passes_call tk fun _ _ _ _ h => h) hdb) fun σ H Q h => ?_
  have z := imp_call σ H Q h
  obtain ⟨env, ω, F, M, Ec, Qc, j, ht, hx, k⟩ := z
  exact k _ _ _ _ _ _ ht j.hw (Ex.refl H F M) .nil
end

/-! ### statements -/
structure DEnds (Ω : Type) where
  nx : List S → Ω → Prop
  rt : D → Ω → Prop
  bk : List S → Ω → Prop := fun _ _ => False
  ct : List S → Ω → Prop := fun _ _ => False
abbrev TDs (Ω : Type) := XD Ω → DEnds Ω → List S → Ω → Prop
/-- the entry of a def -/
structure En where
  H : Hp
  F : Hp
  M : Hp
structure I3 {Ω : Type} (W : Ω → Hp → Prop) (en : En) (env : List S) (ω : Ω) (F M : Hp) (σ : L2.St) (H : Hp) : Prop where
  j : J W env ω F M σ H
  ex : Ex en.H en.F en.M H F M
  own : ∀ (i : Nat) xs p, env[i]? = some (.own xs) → σ[i]? = some (some (.ref p)) → en.H p = none
theorem I3.step {Ω : Type} {W : Ω → Hp → Prop} {en : En} {env : List S} {ω ω' : Ω} {F M F' M' H H' : Hp} {σ : L2.St} (i : I3 W en env ω F M σ H) (h : Hw W ω' F' M' H') (x : Ex H F M H' F' M') : I3 W en env ω' F' M' σ H' :=
  ⟨i.j.step h x, i.ex.trans x, i.own⟩
def sOf {Ω : Type} (W : Ω → Hp → Prop) (C : Cxx) (T : TDs Ω) : TS := fun D σ H => ∃ (en : En) (env : List S) (ω : Ω) (F M : Hp) (Ec : XD Ω) (Dc : DEnds Ω), I3 W en env ω F M σ H ∧ T Ec Dc env ω ∧ XOk W C Ec en.H en.F en.M ∧
  (∀ env' ω' F' M' σ' H', Dc.nx env' ω' → I3 W en env' ω' F' M' σ' H' → D.nx σ' H') ∧
  (∀ env' ω' F' M' σ' H', Dc.bk env' ω' → I3 W en env' ω' F' M' σ' H' → D.bk σ' H') ∧
  (∀ env' ω' F' M' σ' H', Dc.ct env' ω' → I3 W en env' ω' F' M' σ' H' → D.ct σ' H') ∧
  (∀ d ω' F' M' v H', Dc.rt d ω' → Hw W ω' F' M' H' → Ex en.H en.F en.M H' F' M' → RD en.H F' M' H' v d → D.rt v H')
section
variable {Ω : Type}
def sNext : TDs Ω := fun _ D env ω => D.nx env ω
def sSeq (t u : TDs Ω) : TDs Ω := fun E D env ω => t E { D with nx := u E D } env ω
def sDrop (t : TD Ω) : TDs Ω := fun E D env ω => t E env ω fun _ ω' => D.nx env ω'
def sRet (t : TD Ω) : TDs Ω := fun E D env ω => t E env ω fun d ω' => D.rt d ω'
def sIf (t : TDb Ω) (a b : TDs Ω) : TDs Ω := fun E D env ω => t E env ω fun c ω' => match c with
  | true => a E D env ω'
  | false => b E D env ω'
def sSet (i : Nat) (t : TD Ω) : TDs Ω := fun E D env ω => t E env ω fun d ω' => D.nx (env.set i d.s) ω'
def sPar (i k : Nat) (t : TDa Ω) : TDs Ω := fun E D env ω => t E env ω fun ds ω' => match ds with
  | [x, y] => D.nx ((env.set i x.s).set k y.s) ω'
  | _ => False
def sPat (p : Pat) (t : TD Ω) : TDs Ω := fun E D env ω => t E env ω fun d ω' => match d with
  | .d x => match bindP p x env with
    | some env' => D.nx env' ω'
    | none => False
  | _ => False
def sFrz (i : Nat) (t : TDs Ω) : TDs Ω := fun E D env ω => match env[i]? with
  | some (.own xs) => t E D (env.set i (.d (.list xs))) ω
  | _ => False
def sApp (i : Nat) (t : TD Ω) : TDs Ω := fun E D env ω => match env[i]? with
  | some (.own xs) => t E env ω fun d ω' => match d with
    | .d x => xs.length < 1000000 ∧ D.nx (env.set i (.own (xs ++ [x]))) ω'
    | _ => False
  | _ => False
def sExt (i : Nat) (t : TD Ω) : TDs Ω := fun E D env ω => match env[i]? with
  | some (.own xs) => t E env ω fun d ω' => match d with
    | .d (.list ys) => xs.length + ys.length ≤ 1000000 ∧ D.nx (env.set i (.own (xs ++ ys))) ω'
    | _ => False
  | _ => False
def sRaise (c : Nat) : TDs Ω := fun E _ _ ω => E c ω
/-- for: the turns -/
def forL (p : Pat) (b : TDs Ω) (E : XD Ω) (D : DEnds Ω) : List PyData → List S → Ω → Prop
  | [], env, ω => D.nx env ω
  | x :: xs, env, ω => match bindP p x env with
    | some env1 => b E { D with nx := fun env' ω' => forL p b E D xs env' ω', ct := fun env' ω' => forL p b E D xs env' ω', bk := D.nx } env1 ω
    | none => False
def sFor (it : TDi Ω) (p : Pat) (b : TDs Ω) : TDs Ω := fun E D env ω => it E env ω fun ds ω' => forL p b E D ds env ω'
def sWhile (t : TDb Ω) (b : TDs Ω) : TDs Ω := fun E D env ω => ∃ I : Nat → List S → Ω → Prop, (∃ m, I m env ω) ∧ ∀ m env ω, I m env ω → t E env ω fun c ω' => match c with
  | true => b E { D with nx := fun env' ω'' => ∃ m', m' < m ∧ I m' env' ω'', ct := fun env' ω'' => ∃ m', m' < m ∧ I m' env' ω'', bk := D.nx } env ω'
  | false => D.nx env ω'
end
section
variable {Ω : Type} {W : Ω → Hp → Prop} {C : Cxx} {X : Cx} {a b c tg iter : Expr} {es : List Expr} {ta tb tc : TD Ω} {ts : TDa Ω} {pos p : Pos} {s u : TDs Ω} {st : Stmt} {rest body : List Stmt}
theorem ss_nil : PSs X [] (sOf W C (sNext (Ω := Ω))) := pss_imp pss_nil fun D σ H h => by
  obtain ⟨en, env, ω, F, M, Ec, Dc, i, ht, hx, kn, kb, kc, kr⟩ := h
  exact kn _ _ _ _ _ _ ht i
theorem ss_cons (h1 : PS X st (sOf W C s)) (h2 : PSs X rest (sOf W C u)) : PSs X (st :: rest) (sOf W C (sSeq s u)) := pss_imp (pss_cons h1 h2) fun D σ H h => by
  obtain ⟨en, env, ω, F, M, Ec, Dc, i, ht, hx, kn, kb, kc, kr⟩ := h
  exact ⟨en, env, ω, F, M, Ec, _, i, ht, hx, fun env' ω' F' M' σ' H' q i' => ⟨en, env', ω', F', M', Ec, Dc, i', q, hx, kn, kb, kc, kr⟩, kb, kc, kr⟩
theorem ss_one (h1 : PS X st (sOf W C s)) : PSs X [st] (sOf W C s) := pss_one h1
theorem ss_drop (he : PE X a (tOf W C ta)) (hs : swapsWith a none pos.line X.env = pure false) : PS X (.Expr a pos) (sOf W C (sDrop ta)) := ps_imp (ps_expr he hs) fun D σ H h => by
  obtain ⟨en, env, ω, F, M, Ec, Dc, i, ht, hx, kn, kb, kc, kr⟩ := h
  exact ⟨env, ω, F, M, Ec, _, i.j, ht, hx.step i.ex, fun d ω1 v H1 F1 M1 q1 hw1 ex1 r1 => kn _ _ _ _ _ _ q1 (i.step hw1 ex1)⟩
theorem ss_ret (he : PE X a (tOf W C ta)) : PS X (.Return (some a) pos) (sOf W C (sRet ta)) := ps_imp (ps_ret he) fun D σ H h => by
  obtain ⟨en, env, ω, F, M, Ec, Dc, i, ht, hx, kn, kb, kc, kr⟩ := h
  exact ⟨env, ω, F, M, Ec, _, i.j, ht, hx.step i.ex, fun d ω1 v H1 F1 M1 q1 hw1 ex1 r1 => kr _ _ _ _ _ _ q1 hw1 (i.ex.trans ex1) (r1.back i.ex.al)⟩
theorem ss_if {sa : TDb Ω} (ht : PT X c (bOf W C sa)) (ha : PSs X body (sOf W C s)) (hb : PSs X rest (sOf W C u)) : PS X (.If c body rest pos) (sOf W C (sIf sa s u)) := ps_imp (ps_if ht ha hb) fun D σ H h => by
  obtain ⟨en, env, ω, F, M, Ec, Dc, i, ht, hx, kn, kb, kc, kr⟩ := h
  refine ⟨env, ω, F, M, Ec, _, i.j, ht, hx.step i.ex, fun d ω1 H1 F1 M1 q1 hw1 ex1 => ?_⟩
  cases d with
  | true => exact iteT ⟨en, env, ω1, F1, M1, Ec, Dc, i.step hw1 ex1, q1, hx, kn, kb, kc, kr⟩
  | false => exact iteF ⟨en, env, ω1, F1, M1, Ec, Dc, i.step hw1 ex1, q1, hx, kn, kb, kc, kr⟩
/-- a value is stored; hf: the own lists stood ahead of it -/
theorem J.setS {env : List S} {ω : Ω} {F M H H0 : Hp} {σ : L2.St} (j : J W env ω F M σ H) {i : Nat} {v : V} {d : D} (r : RD H0 F M H v d) (hf : noOwn [d] = false → ∀ (k : Nat) ys q, env[k]? = some (.own ys) → σ[k]? = some (some (.ref q)) → H0 q ≠ none) : J W (env.set i d.s) ω F M (σ.set i (some v)) H := by
  cases d with
  | d x => exact j.setD r
  | r x =>
    refine ⟨j.hw, fun k s e => ?_, fun k l xs ys p n e1 e2 e3 e4 => ?_⟩
    · by_cases h : i = k
      · subst h
        have hi : i < env.length := by
          have := (List.getElem?_eq_some_iff.mp e).1
          simpa using this
        rw [List.getElem?_set_self hi] at e
        cases e
        obtain ⟨ov, e1, _⟩ := j.sl i _ (List.getElem?_eq_getElem hi)
        have hs : i < σ.length := (List.getElem?_eq_some_iff.mp e1).1
        exact ⟨some v, List.getElem?_set_self hs, congrArg some r⟩
      · rw [List.getElem?_set_ne h] at e
        obtain ⟨ov, e1, q⟩ := j.sl k s e
        exact ⟨ov, by rw [List.getElem?_set_ne h]; exact e1, q⟩
    · have h1 : i ≠ k := fun z => by
        subst z
        by_cases hi : i < env.length
        · rw [List.getElem?_set_self hi] at e1; cases e1
        · rw [List.getElem?_eq_none (by simpa using hi)] at e1; cases e1
      have h2 : i ≠ l := fun z => by
        subst z
        by_cases hi : i < env.length
        · rw [List.getElem?_set_self hi] at e2; cases e2
        · rw [List.getElem?_eq_none (by simpa using hi)] at e2; cases e2
      rw [List.getElem?_set_ne h1] at e1 e3
      rw [List.getElem?_set_ne h2] at e2 e4
      exact j.di k l xs ys p n e1 e2 e3 e4
  | own xs =>
    obtain ⟨p, vs, rfl, h0, f, m, hp, hl, pr⟩ := r
    have fresh : ∀ (k : Nat) ys q, env[k]? = some (.own ys) → σ[k]? = some (some (.ref q)) → q ≠ p := fun k ys q e1 e2 z => by
      have := hf rfl k ys q e1 e2
      rw [z] at this
      exact this h0
    refine ⟨j.hw, fun k s e => ?_, fun k l xs' ys q n e1 e2 e3 e4 => ?_⟩
    · by_cases h : i = k
      · subst h
        have hi : i < env.length := by
          have := (List.getElem?_eq_some_iff.mp e).1
          simpa using this
        rw [List.getElem?_set_self hi] at e
        cases e
        obtain ⟨ov, e1, _⟩ := j.sl i _ (List.getElem?_eq_getElem hi)
        have hs : i < σ.length := (List.getElem?_eq_some_iff.mp e1).1
        exact ⟨_, List.getElem?_set_self hs, p, vs, rfl, f, m, hp, hl, pr⟩
      · rw [List.getElem?_set_ne h] at e
        obtain ⟨ov, e1, q⟩ := j.sl k s e
        exact ⟨ov, by rw [List.getElem?_set_ne h]; exact e1, q⟩
    · by_cases h1 : i = k
      · subst h1
        have h2 : i ≠ l := n
        rw [List.getElem?_set_ne h2] at e2 e4
        have hi : i < σ.length := by have := (List.getElem?_eq_some_iff.mp e3).1; simpa using this
        rw [List.getElem?_set_self hi] at e3
        exact fresh l ys q e2 e4 (by injection e3 with e3; injection e3 with e3; injection e3 with e3; exact e3.symm)
      · rw [List.getElem?_set_ne h1] at e1 e3
        by_cases h2 : i = l
        · subst h2
          have hi : i < σ.length := by have := (List.getElem?_eq_some_iff.mp e4).1; simpa using this
          rw [List.getElem?_set_self hi] at e4
          exact fresh k xs' q e1 e3 (by injection e4 with e4; injection e4 with e4; injection e4 with e4; exact e4.symm)
        · rw [List.getElem?_set_ne h2] at e2 e4
          exact j.di k l xs' ys q n e1 e2 e3 e4
/-- the own lists stand -/
theorem J.ownAt {env : List S} {ω : Ω} {F M H : Hp} {σ : L2.St} (j : J W env ω F M σ H) (k : Nat) (ys : List PyData) (q : Addr) (e1 : env[k]? = some (.own ys)) (e2 : σ[k]? = some (some (.ref q))) : H q ≠ none := by
  obtain ⟨ov, e3, q', vs', e4, _, _, e5, _⟩ := j.sl k _ e1
  rw [e2] at e3; cases e3; cases e4
  rw [e5]; simp
theorem I3.setS {en : En} {env : List S} {ω' : Ω} {F' M' H' H0 : Hp} {σ : L2.St} (i : I3 W en env ω' F' M' σ H') {k : Nat} {v : V} {d : D} (r : RD H0 F' M' H' v d) (hf : noOwn [d] = false → (∀ (k : Nat) ys q, env[k]? = some (.own ys) → σ[k]? = some (some (.ref q)) → H0 q ≠ none) ∧ ∀ p, H0 p = none → en.H p = none) : I3 W en (env.set k d.s) ω' F' M' (σ.set k (some v)) H' := by
  refine ⟨i.j.setS r fun h => (hf h).1, i.ex, fun n xs p e1 e2 => ?_⟩
  by_cases h : k = n
  · subst h
    have hs : k < σ.length := by have := (List.getElem?_eq_some_iff.mp e2).1; simpa using this
    have hi : k < env.length := by have := (List.getElem?_eq_some_iff.mp e1).1; simpa using this
    rw [List.getElem?_set_self hs] at e2
    rw [List.getElem?_set_self hi] at e1
    cases d with
    | d x => cases e1
    | r x => cases e1
    | own ys =>
      obtain ⟨p', vs, rfl, h0, _⟩ := r
      cases e2
      exact (hf rfl).2 _ h0
  · rw [List.getElem?_set_ne h] at e1 e2
    exact i.own n xs p e1 e2
theorem ss_set {k : Nat} {x : Str} {pos' : Pos} (hN : X.N.Nodup) (hi : X.N[k]? = some x) (hx : Loc X.env.scope x) (he : PE X a (tOf W C ta)) (hs : swapsWith a (some (.Name x pos')) pos.line X.env = pure false) (hf : X.fn x = true ∨ X.env.scope.names.lookup x = some .local) : PS X (.Assign [.Name x pos'] a pos) (sOf W C (sSet k ta)) :=
  ps_imp (ps_set hN hi hx he hs hf) fun D σ H h => by
  obtain ⟨en, env, ω, F, M, Ec, Dc, i, ht, hx, kn, kb, kc, kr⟩ := h
  exact ⟨env, ω, F, M, Ec, _, i.j, ht, hx.step i.ex, fun d ω1 v H1 F1 M1 q1 hw1 ex1 r1 => kn _ _ _ _ _ _ q1 ((i.step hw1 ex1).setS r1 fun _ => ⟨i.j.ownAt, i.ex.al⟩)⟩
/-- name = [..] (the comprehension stores by itself) -/
theorem ss_setLc {elt : Expr} {ifs : List Expr} {scope : Scope} {own : List (Str × Nat)} {ow : Bool} {it : TDi Ω} {pt : Pat} {t : TDb Ω} {e : TD Ω} {k : Nat} {y : Str} {py spos : Pos} (hc : X.calm = true) (hN : X.N.Nodup) (hy : X.N[k]? = some y) (hyl : X.env.scope.names.lookup y = some .local)
    (hsw : swapsWith (.ListComp elt [⟨tg, iter, ifs, 0⟩] scope pos) (some (.Name y py)) spos.line X.env = pure true) (hi : PI X tg iter (iOf W C it)) (ok : BlkOk X.N X.env.scope scope own) (ho : own.map (·.2) = pt.slots)
    (hg : ∀ (s : Shared) (H : Hp) (C : Addr) (cl : List (Str × Addr)) (fp : List Addr), PG (X.blk s H scope (compEnvC scope cl C X.env) fp) tg (gP X.K pt)) (ht : ∀ (s : Shared) (H : Hp) (C0 : Addr) (cl : List (Str × Addr)) (fp : List Addr), PTs (X.blk s H scope (compEnvC scope cl C0 X.env) fp) ifs (bOf W C.none t))
    (he : ∀ (s : Shared) (H : Hp) (C0 : Addr) (cl : List (Str × Addr)) (fp : List Addr), PE (X.blk s H scope (compEnvC scope cl C0 X.env) fp) elt (tOf W C.none e)) (hs : ∀ x, foldedSetIterable iter X.env x = pure x) :
    PS X (.Assign [.Name y py] (.ListComp elt [⟨tg, iter, ifs, 0⟩] scope pos) spos) (sOf W C (sSet k (dComp ow it pt t e))) :=
  ps_imp (ps_setLc (i := k) hc hN hy hyl hsw hi ok hg ht he hs) fun D σ H h => by
  obtain ⟨en, env, ω, F, M, Ec, Dc, i, ht, hx, kn, kb, kc, kr⟩ := h
  refine imp_comp ho σ H _ ⟨env, ω, F, M, Ec, _, i.j, ht, hx.step i.ex, fun d ω1 v H1 F1 M1 q1 hw1 ex1 r1 => kn _ _ _ _ _ _ q1 ((i.step hw1 ex1).setS r1 fun _ => ⟨i.j.ownAt, i.ex.al⟩)⟩
theorem de_comp {elt : Expr} {ifs : List Expr} {scope : Scope} {own : List (Str × Nat)} {ow : Bool} {it : TDi Ω} {pt : Pat} {t : TDb Ω} {e : TD Ω} (hc : X.calm = true) (hN : X.N.Nodup) (hi : PI X tg iter (iOf W C it)) (ok : BlkOk X.N X.env.scope scope own) (ho : own.map (·.2) = pt.slots)
    (hg : ∀ (s : Shared) (H : Hp) (C : Addr) (cl : List (Str × Addr)) (fp : List Addr), PG (X.blk s H scope (compEnvC scope cl C X.env) fp) tg (gP X.K pt)) (ht : ∀ (s : Shared) (H : Hp) (C0 : Addr) (cl : List (Str × Addr)) (fp : List Addr), PTs (X.blk s H scope (compEnvC scope cl C0 X.env) fp) ifs (bOf W C.none t))
    (he : ∀ (s : Shared) (H : Hp) (C0 : Addr) (cl : List (Str × Addr)) (fp : List Addr), PE (X.blk s H scope (compEnvC scope cl C0 X.env) fp) elt (tOf W C.none e)) (hs : ∀ x, foldedSetIterable iter X.env x = pure x) :
    PE X (.ListComp elt [⟨tg, iter, ifs, 0⟩] scope pos) (tOf W C (dComp ow it pt t e)) := pe_imp (pe_lc hc hN hi ok hg ht he hs) (imp_comp ho)
theorem set_own {env : List S} {i k : Nat} {x : PyData} {xs : List PyData} (h : (env.set i (.d x))[k]? = some (.own xs)) : env[k]? = some (.own xs) ∧ k ≠ i := by
  by_cases e : i = k
  · subst e
    by_cases hi : i < env.length
    · rw [List.getElem?_set_self hi] at h; cases h
    · rw [List.getElem?_eq_none (by simpa using hi)] at h; cases h
  · rw [List.getElem?_set_ne e] at h
    exact ⟨h, fun z => e z.symm⟩
mutual
theorem bindP_own : ∀ {p : Pat} {x : PyData} {env env' : List S}, bindP p x env = some env' → ∀ (k : Nat) (xs : List PyData), env'[k]? = some (.own xs) → env[k]? = some (.own xs) ∧ k ∉ p.slots
  | .nm i, x, env, env', h, k, xs, e => by
    simp only [bindP, Option.some.injEq] at h
    subst h
    obtain ⟨a, b⟩ := set_own e
    exact ⟨a, by simpa [Pat.slots] using b⟩
  | .nil, x, env, env', h, k, xs, e => by
    cases x with
    | tuple ys => simp only [bindP] at h; exact bindPs_own h k xs e
    | _ => simp [bindP] at h
  | .cons p q, x, env, env', h, k, xs, e => by
    cases x with
    | tuple ys => simp only [bindP] at h; exact bindPs_own h k xs e
    | _ => simp [bindP] at h
theorem bindPs_own : ∀ {p : Pat} {x : List PyData} {env env' : List S}, bindPs p x env = some env' → ∀ (k : Nat) (xs : List PyData), env'[k]? = some (.own xs) → env[k]? = some (.own xs) ∧ k ∉ p.slots
  | .nil, [], env, env', h, k, xs, e => by
    simp only [bindPs, Option.some.injEq] at h
    subst h
    exact ⟨e, by simp [Pat.slots]⟩
  | .nil, _ :: _, _, _, h, _, _, _ => by simp [bindPs] at h
  | .cons p q, [], _, _, h, _, _, _ => by simp [bindPs] at h
  | .cons p q, x :: ys, env, env', h, k, xs, e => by
    simp only [bindPs] at h
    split at h
    · rename_i env1 e1
      obtain ⟨a, b⟩ := bindPs_own h k xs e
      obtain ⟨c, d⟩ := bindP_own e1 k xs a
      exact ⟨c, by simp only [Pat.slots, List.mem_append, not_or]; exact ⟨d, b⟩⟩
    · cases h
  | .nm _, _, _, _, h, _, _, _ => by simp [bindPs] at h
end
theorem I3.pat {K : PySem.W.Frag} {en : En} {env env' : List S} {ω : Ω} {F M H : Hp} {σ : L2.St} (i : I3 W en env ω F M σ H) {pt : Pat} {x : PyData} {v : V} {Q : L2.St → Hp → Prop} (r : Rp F v x) (e : bindP pt x env = some env') (k : ∀ σ', I3 W en env' ω F M σ' H → Q σ' H) : gP K pt v σ H Q :=
  pat_ok pt x v env env' σ Q i.j r e fun σ' j o => k σ' ⟨j, i.ex, fun n xs p e1 e2 => by
    obtain ⟨a, b⟩ := bindP_own e n xs e1
    rw [o.2 n b] at e2
    exact i.own n xs p a e2⟩
/-- target = value, the target a pattern -/
theorem ss_pat {pt : Pat} (he : PE X a (tOf W C ta)) (hg : PG X tg (gP X.K pt)) (hs : swapsWithSole [tg] a pos.line X.env = pure false) (hw : swappedStores [tg] a X.env = pure none) (h1 : (assignEach [tg] X.env).map (·.2) = [assign tg X.env]) : PS X (.Assign [tg] a pos) (sOf W C (sPat pt ta)) :=
  ps_imp (ps_asg he hg hs hw h1) fun D σ H h => by
  obtain ⟨en, env, ω, F, M, Ec, Dc, i, ht, hx, kn, kb, kc, kr⟩ := h
  refine ⟨env, ω, F, M, Ec, _, i.j, ht, hx.step i.ex, fun d ω1 v H1 F1 M1 q1 hw1 ex1 r1 => ?_⟩
  split at q1
  · split at q1
    · rename_i env' eb
      exact (i.step hw1 ex1).pat r1 eb fun σ' i' => kn _ _ _ _ _ _ q1 i'
    · exact q1.elim
  · exact q1.elim
/-- a, b = e1, e2 of plain local names -/
def sPar1 (i k : Nat) (t : TDa Ω) : TDs Ω := fun E D env ω => t E env ω fun ds ω' => match ds with
  | [x, y] => (noOwn [x] || noOwn [y]) = true ∧ D.nx ((env.set i x.s).set k y.s) ω'
  | _ => False
theorem ss_par {i k : Nat} {x y : Str} {px py pt : Pos} {kt k2 : Nat} {pt2 : Pos} (hc : X.calm = true) (hN : X.N.Nodup) (hi : X.N[i]? = some x) (hj : X.N[k]? = some y) (hij : i ≠ k) (hx : X.env.scope.names.lookup x = some .local) (hy : X.env.scope.names.lookup y = some .local) (ha : PA X [a, b] (aOf W C ts))
    (hw : swappedStores [.Tuple [.Name x px, .Name y py] kt pt] (.Tuple [a, b] k2 pt2) X.env = pure (some [x, y])) (hs : swapsWithSole [.Tuple [.Name x px, .Name y py] kt pt] (.Tuple [a, b] k2 pt2) pos.line X.env = pure false) :
    PS X (.Assign [.Tuple [.Name x px, .Name y py] kt pt] (.Tuple [a, b] k2 pt2) pos) (sOf W C (sPar1 i k ts)) :=
  ps_imp (ps_par hc hN hi hj hij hx hy ha hw hs) fun D σ H h => by
  obtain ⟨en, env, ω, F, M, Ec, Dc, i0, ht, hx, kn, kb, kc, kr⟩ := h
  refine ⟨env, ω, F, M, Ec, _, i0.j, ht, hx.step i0.ex, fun ds ω1 vs H1 F1 M1 q1 hw1 ex1 r1 => ?_⟩
  split at q1
  · rename_i x y
    obtain ⟨v, u, rfl, r, r'⟩ := rds2 r1
    obtain ⟨no, q⟩ := q1
    refine ⟨v, u, rfl, kn _ _ F1 M1 _ _ q ?_⟩
    have i1 := (i0.step hw1 ex1).setS (k := i) r fun _ => ⟨i0.j.ownAt, i0.ex.al⟩
    refine i1.setS r' fun hy => ⟨fun n ys q e1 e2 => ?_, i0.ex.al⟩
    have hx : noOwn [x] = true := by
      rw [hy] at no
      simpa using no
    have hn : i ≠ n := fun z => by
      subst z
      have hl : i < env.length := by have := (List.getElem?_eq_some_iff.mp e1).1; simpa using this
      rw [List.getElem?_set_self hl] at e1
      cases x with
      | own _ => simp [noOwn] at hx
      | _ => cases e1
    rw [List.getElem?_set_ne hn] at e1 e2
    exact i0.j.ownAt n ys q e1 e2
  · exact q1.elim
/-- the own list at i is frozen; no code -/
theorem imp_frz {k : Nat} (D : Ends) (σ : L2.St) (H : Hp) (h : sOf W C (sFrz k s) D σ H) : sOf W C s D σ H := by
  obtain ⟨en, env, ω, F, M, Ec, Dc, i, ht, hx, kn, kb, kc, kr⟩ := h
  unfold sFrz at ht
  split at ht
  · rename_i xs e
    obtain ⟨ov, e1, p, vs, rfl, f, m, hp, hl, pr⟩ := i.j.sl k _ e
    have sub : ∀ a o, F a = some o → upd F p (.lst vs) a = some o := fun a o w => by rw [upd_ne (ne_of_none w f)]; exact w
    have hn : en.H p = none := i.own k xs p e e1
    have ex2 : Ex en.H en.F en.M H (upd F p (.lst vs)) M := i.ex.frz hn f
    have hk : k < σ.length := (List.getElem?_eq_some_iff.mp e1).1
    have hse : σ.set k (some (.ref p)) = σ := by
      have z : σ[k] = some (V.ref p) := by
        rw [List.getElem?_eq_getElem hk] at e1
        exact Option.some.inj e1
      rw [← z, List.set_getElem_self]
    refine ⟨en, _, ω, upd F p (.lst vs), M, Ec, Dc, ⟨⟨i.j.hw.frz hp m, fun n s e2 => ?_, fun n l ys zs q ne e2 e3 e4 e5 => ?_⟩, ex2, fun n ys q e2 e3 => ?_⟩, ht, hx, kn, kb, kc, kr⟩
    · by_cases hkn : k = n
      · subst hkn
        have hi : k < env.length := by have := (List.getElem?_eq_some_iff.mp e2).1; simpa using this
        rw [List.getElem?_set_self hi] at e2
        cases e2
        exact ⟨_, e1, _, rfl, .lst upd_same hl (rps_sub sub pr)⟩
      · rw [List.getElem?_set_ne hkn] at e2
        obtain ⟨ov', e3, q⟩ := i.j.sl n s e2
        refine ⟨ov', e3, ?_⟩
        cases s with
        | no => trivial
        | d x =>
          obtain ⟨v, e4, r⟩ := q
          exact ⟨v, e4, rp_sub sub r⟩
        | r v => exact q
        | own ys =>
          obtain ⟨p', vs', e4, f', m', hp', hl', pr'⟩ := q
          subst e4
          have ne : p' ≠ p := fun z => by
            subst z
            exact i.j.di k n xs ys p' hkn e e2 e1 e3
          exact ⟨p', vs', rfl, by rw [upd_ne ne]; exact f', m', hp', hl', rps_sub sub pr'⟩
    · obtain ⟨a1, _⟩ := set_own e2
      obtain ⟨a2, _⟩ := set_own e3
      exact i.j.di n l ys zs q ne a1 a2 e4 e5
    · obtain ⟨a1, _⟩ := set_own e2
      exact i.own n ys q a1 e3
  · exact ht.elim
/-- x.append(e), x an own list -/
theorem I3.upd {en : En} {env : List S} {ω : Ω} {F M H : Hp} {σ : L2.St} (i : I3 W en env ω F M σ H) {k : Nat} {p : Addr} {xs ys : List PyData} {us : List V} (e : env[k]? = some (.own xs)) (e1 : σ[k]? = some (some (.ref p))) (hl : us.length ≤ 1000000) (pr : Rps F us ys) : I3 W en (env.set k (.own ys)) ω F M σ (upd H p (.lst us)) := by
  obtain ⟨ov, e2, p', vs, e3, f, m, hp, _, _⟩ := i.j.sl k _ e
  rw [e1] at e2; cases e2; cases e3
  have hn := i.own k xs p e e1
  have hi : k < env.length := (List.getElem?_eq_some_iff.mp e).1
  refine ⟨⟨i.j.hw.at f m, fun n s e2 => ?_, fun n l xs' zs q ne e2 e3 e4 e5 => ?_⟩, i.ex.at hn, fun n ys' q e2 e3 => ?_⟩
  · by_cases hkn : k = n
    · subst hkn
      rw [List.getElem?_set_self hi] at e2
      cases e2
      exact ⟨_, e1, p, us, rfl, f, m, upd_same, hl, pr⟩
    · rw [List.getElem?_set_ne hkn] at e2
      obtain ⟨ov', e3, q⟩ := i.j.sl n s e2
      refine ⟨ov', e3, ?_⟩
      cases s with
      | no => trivial
      | d x => exact q
      | r v => exact q
      | own zs =>
        obtain ⟨p', vs', e4, f', m', hp', hl', pr'⟩ := q
        subst e4
        have ne : p' ≠ p := fun z => by
          subst z
          exact i.j.di k n xs zs p' hkn e e2 e1 e3
        exact ⟨p', vs', rfl, f', m', by rw [upd_ne ne]; exact hp', hl', pr'⟩
  · have o1 : ∃ w, env[n]? = some (.own w) := by
      by_cases hkn : k = n
      · subst hkn; exact ⟨_, e⟩
      · rw [List.getElem?_set_ne hkn] at e2; exact ⟨_, e2⟩
    have o2 : ∃ w, env[l]? = some (.own w) := by
      by_cases hkn : k = l
      · subst hkn; exact ⟨_, e⟩
      · rw [List.getElem?_set_ne hkn] at e3; exact ⟨_, e3⟩
    obtain ⟨w1, o1⟩ := o1
    obtain ⟨w2, o2⟩ := o2
    exact i.j.di n l w1 w2 q ne o1 o2 e4 e5
  · by_cases hkn : k = n
    · subst hkn; exact i.own k xs q e e3
    · rw [List.getElem?_set_ne hkn] at e2; exact i.own n ys' q e2 e3
theorem few_ok {p3 : Pos} (he : starEach [a] X.env = [(false, eval a X.env)]) : ((backTo p3 (starEach [a] X.env)).all (fun x => !x.1) && (backToKw p3 (keywordEach [] X.env)).all (fun x => x.1.isSome)
      && decide ([a].length + ([] : List Keyword).length + (if ([] : List Keyword).isEmpty then 0 else 1) < 30)) = true := by rw [he]; rfl
theorem ss_app {k : Nat} {x : Str} {p1 p2 p3 : Pos} (hN : X.N[k]? = some x) (hv : Vis X.env.scope x) (hd : (x == ("__debug__" : Str)) = false) (hcd : (x == ("__classdict__" : Str)) = false) (ha : PE X a (tOf W C ta)) (he : starEach [a] X.env = [(false, eval a X.env)]) (hl : (p2.endLine == p3.line) = true) :
    PS X (.Expr (.Call (.Attribute (.Name x p1) "append" p2) [a] [] p3) pos) (sOf W C (sApp k ta)) := by
  refine ps_imp (ps_expr (pe_bm PySem.F.plainAttrs_list PySem.F.slot_list_append PySem.F.type_list_append mt_append (pe_var (i := k) hN hv hd hcd) (pa_cons ha pa_nil he) (by rfl) (few_ok he) hl he (by rfl)) (by rfl)) fun D σ H h => ?_
  obtain ⟨en, env, ω, F, M, Ec, Dc, i, ht, hx, kn, kb, kc, kr⟩ := h
  unfold sApp at ht
  split at ht
  · rename_i xs e
    obtain ⟨ov, e1, p, vs, rfl, f, m, hp, hl, pr⟩ := i.j.sl k _ e
    refine ⟨.ref p, e1, .inl ⟨rfl, _, SqL.of hp⟩, env, ω, F, M, Ec, _, i.j, ht, hx.step i.ex, fun d ω1 v H1 F1 M1 q1 hw1 ex1 r1 => ?_⟩
    cases d with
    | d z =>
      have i1 := i.step hw1 ex1
      have hp1 : H1 p = some (.lst vs) := ex1.keep _ _ hp m
      have hlen := rps_len pr
      refine ⟨p, vs, v, rfl, rfl, hp1, by rw [sizeLine_eq]; omega, kn _ _ F1 M1 _ _ q1.2 (i1.upd e e1 (by rw [List.length_append, List.length_singleton]; omega) (rps_app (rps_sub ex1.f0 pr) (.cons r1 .nil)))⟩
    | _ => exact q1.elim
  · exact ht.elim
theorem ss_ext {k : Nat} {x : Str} {p1 p2 p3 : Pos} (hN : X.N[k]? = some x) (hv : Vis X.env.scope x) (hd : (x == ("__debug__" : Str)) = false) (hcd : (x == ("__classdict__" : Str)) = false) (ha : PE X a (tOf W C ta)) (he : starEach [a] X.env = [(false, eval a X.env)]) (hl : (p2.endLine == p3.line) = true) :
    PS X (.Expr (.Call (.Attribute (.Name x p1) "extend" p2) [a] [] p3) pos) (sOf W C (sExt k ta)) := by
  refine ps_imp (ps_expr (pe_bm PySem.F.plainAttrs_list PySem.F.slot_list_extend PySem.F.type_list_extend mt_extend (pe_var (i := k) hN hv hd hcd) (pa_cons ha pa_nil he) (by rfl) (few_ok he) hl he (by rfl)) (by rfl)) fun D σ H h => ?_
  obtain ⟨en, env, ω, F, M, Ec, Dc, i, ht, hx, kn, kb, kc, kr⟩ := h
  unfold sExt at ht
  split at ht
  · rename_i xs e
    obtain ⟨ov, e1, p, vs, rfl, f, m, hp, hl, pr⟩ := i.j.sl k _ e
    refine ⟨.ref p, e1, .inl ⟨rfl, _, SqL.of hp⟩, env, ω, F, M, Ec, _, i.j, ht, hx.step i.ex, fun d ω1 v H1 F1 M1 q1 hw1 ex1 r1 => ?_⟩
    split at q1
    · rename_i ys
      have i1 := i.step hw1 ex1
      have hp1 : H1 p = some (.lst vs) := ex1.keep _ _ hp m
      have hlen := rps_len pr
      obtain ⟨a, us, rfl, fa, la, pa⟩ := rp_lst r1
      have hlen2 := rps_len pa
      exact ⟨p, a, vs, us, rfl, rfl, hp1, hw1.fh _ _ fa, by rw [sizeLine_eq]; omega, kn _ _ F1 M1 _ _ q1.2 (i1.upd e e1 (by rw [List.length_append]; omega) (rps_app (rps_sub ex1.f0 pr) pa))⟩
    · exact q1.elim
  · exact ht.elim
/-- for -/
theorem ss_for {it : TDi Ω} {pt : Pat} (hp : PassesOwn (model X.prog X.w) X.A X.env X.xe) (hc : X.calm = true) (hi : PI X tg iter (iOf W C it)) (hg : PG X tg (gP X.K pt)) (hb : PSs X body (sOf W C s)) (hs : ∀ x, foldedSetIterable iter X.env x = pure x) :
    PS X (.For tg iter body [] pos) (sOf W C (sFor it pt s)) := by
  refine ps_imp (ps_for hp hc hi hg hb hs) fun D σ H h => ?_
  obtain ⟨en, env, ω, F, M, Ec, Dc, i, ht, hx, kn, kb, kc, kr⟩ := h
  refine ⟨env, ω, F, M, Ec, _, i.j, ht, hx.step i.ex, fun ds ω1 Jt H1 F1 M1 q1 hw1 ex1 wk => ?_⟩
  have i1 := i.step hw1 ex1
  -- the entry of the loop: the items stay
  let en1 : En := ⟨en.H, F1, en.M⟩
  have toEn : ∀ {env' ω' F' M' σ' H'}, I3 W en1 env' ω' F' M' σ' H' → I3 W en env' ω' F' M' σ' H' := fun {env' ω' F' M' σ' H'} q =>
    ⟨q.j, ⟨q.ex.keep, fun a o z => q.ex.f0 a o (i1.ex.f0 a o z), fun a o z => (q.ex.nf a o z).elim (fun y => i1.ex.nf a o y) .inr, q.ex.nm, q.ex.al⟩, q.own⟩
  have ofEn : I3 W en1 env ω1 F1 M1 σ H1 := ⟨i1.j, ⟨i1.ex.keep, fun _ _ z => z, fun _ _ z => .inl z, i1.ex.nm, i1.ex.al⟩, i1.own⟩
  have toR : ∀ {H' F' M' : Hp}, Ex en1.H en1.F en1.M H' F' M' → Ex en.H en.F en.M H' F' M' := fun {H' F' M'} q =>
    ⟨q.keep, fun a o z => q.f0 a o (i1.ex.f0 a o z), fun a o z => (q.nf a o z).elim (fun y => i1.ex.nf a o y) .inr, q.nm, q.al⟩
  refine ⟨fun n m σ2 H2 => ∃ env2 ω2 F2 M2, m = ds.length - n ∧ n ≤ ds.length ∧ I3 W en1 env2 ω2 F2 M2 σ2 H2 ∧ forL pt s Ec Dc (ds.drop n) env2 ω2, ⟨ds.length, env, ω1, F1, M1, by simp, Nat.zero_le _, ofEn, q1⟩, ?_⟩
  rintro n m σ2 H2 ⟨env2, ω2, F2, M2, rfl, hn, i2, q⟩
  have subH : Sub F1 H2 := fun a o z => i2.j.hw.fh _ _ (i2.ex.f0 a o z)
  by_cases hlt : n < ds.length
  · refine .inr ⟨wk.go n H2 subH hlt, fun σ' H' => ∃ env' ω' F' M', I3 W en1 env' ω' F' M' σ' H' ∧ forL pt s Ec Dc (ds.drop (n + 1)) env' ω', fun σ' H' ⟨env', ω', F', M', a1, a2⟩ => ⟨ds.length - (n + 1), by omega, env', ω', F', M', rfl, hlt, a1, a2⟩, fun x H3 hy => ?_⟩
    obtain ⟨d, hd⟩ : ∃ d, ds[n]? = some d := ⟨ds[n], List.getElem?_eq_getElem hlt⟩
    obtain ⟨F3, hw4, ex4, px⟩ := wk.yld n H2 x H3 d ω2 F2 M2 i2.j.hw i2.ex.f0 hd hy
    have e4 : ds.drop n = d :: ds.drop (n + 1) := by
      rw [List.drop_eq_getElem_cons hlt]
      have : ds[n] = d := Option.some.inj ((List.getElem?_eq_getElem hlt).symm.trans hd)
      rw [this]
    rw [e4] at q
    unfold forL at q
    split at q
    · rename_i env3 eb
      exact (i2.step hw4 ex4).pat px eb fun σ3 i3 => ⟨en1, env3, ω2, F3, M2, Ec, _, i3, q, fun c ω' H' F' M' a b e => hx c ω' H' F' M' a b (toR e), fun env' ω' F' M' σ' H' a b => ⟨env', ω', F', M', b, a⟩, fun env' ω' F' M' σ' H' a b => kn _ _ _ _ _ _ a (toEn b), fun env' ω' F' M' σ' H' a b => ⟨env', ω', F', M', b, a⟩, fun d ω' F' M' v H' a b e r => kr d ω' F' M' v H' a b (toR e) r⟩
    · exact q.elim
  · refine .inl ⟨wk.stop n H2 subH (by omega), ?_⟩
    rw [List.drop_eq_nil_of_le (by omega)] at q
    simp only [forL] at q
    exact kn _ _ _ _ _ _ q (toEn i2)
/-- while -/
theorem ss_while {sa : TDb Ω} (hp : PassesOwn (model X.prog X.w) X.A X.env X.xe) (hc : PT X c (bOf W C sa)) (hb : PSs X body (sOf W C s)) : PS X (.While c body [] pos) (sOf W C (sWhile sa s)) := by
  refine ps_imp (ps_while hp hc hb) fun D σ H h => ?_
  obtain ⟨en, env, ω, F, M, Ec, Dc, i, ht, hx, kn, kb, kc, kr⟩ := h
  obtain ⟨Iv, ⟨m0, w0⟩, turn⟩ := ht
  refine ⟨fun m σ' H' => ∃ env' ω' F' M', I3 W en env' ω' F' M' σ' H' ∧ Iv m env' ω', ⟨m0, env, ω, F, M, i, w0⟩, ?_⟩
  rintro m σ1 H1 ⟨env1, ω1, F1, M1, i1, w1⟩
  refine ⟨env1, ω1, F1, M1, Ec, _, i1.j, turn m env1 ω1 w1, hx.step i1.ex, fun b ω2 H2 F2 M2 q2 hw2 ex2 => ?_⟩
  cases b with
  | true =>
    refine iteT ⟨fun σ' H' => ∃ env' ω' F' M', I3 W en env' ω' F' M' σ' H' ∧ ∃ m', m' < m ∧ Iv m' env' ω', fun σ' H' ⟨env', ω', F', M', a, m', b, c⟩ => ⟨m', b, env', ω', F', M', a, c⟩, ?_⟩
    exact ⟨en, env1, ω2, F2, M2, Ec, _, i1.step hw2 ex2, q2, hx, fun env' ω' F' M' σ' H' a b => ⟨env', ω', F', M', b, a⟩, fun env' ω' F' M' σ' H' a b => kn _ _ _ _ _ _ a b, fun env' ω' F' M' σ' H' a b => ⟨env', ω', F', M', b, a⟩, kr⟩
  | false => exact iteF (kn _ _ _ _ _ _ q2 (i1.step hw2 ex2))
end
end Q
namespace Q
open PySem PySem.Spec PyProof.Rows L2

/-! ### the core language -/
inductive CE where
  | var (i : Nat) | con (x : PyData) | glo (k : Nat)
  | tup (a : CE) | lst (own : Bool) (a : CE)
  | bin (o : Op2) (a b : CE) | un (o : Op1) (a : CE) | chain (o o' : Op2) (a b c : CE) | isN (neg : Bool) (a : CE)
  | and (a b : CE) | or (a b : CE) | not (a : CE) | ite (t a b : CE)
  | sl (a lo hi : CE) | no
  | blt (b : Blt) (a : CE) | isa (T : Ty) (a : CE) | call (k : Nat) (a : CE) | callK (k n : Nat) (a b : CE)
  | comp (own : Bool) (it : CE) (p : Pat) (t e : CE) | yes
  | nil | cons (a r : CE)
  | rng1 (a : CE) | rng2 (a b : CE) | zip (a b : CE)
/-- what the names of the text are worth -/
structure Den (Ω : Type) where
  fns : List (Nat × FSpec Ω)
  cns : List Int
/-- a core term's readings: as an expression, a test, arguments, what is walked, a slice's part -/
structure Dn (Ω : Type) where
  e : TD Ω
  b : TDb Ω
  a : TDa Ω
  i : TDi Ω
  o : TDo Ω
section
variable {Ω : Type}
def fE : TD Ω := fun _ _ _ _ => False
def fB : TDb Ω := fun _ _ _ _ => False
def fA : TDa Ω := fun _ _ _ _ => False
def fI : TDi Ω := fun _ _ _ _ => False
def fO : TDo Ω := fun _ _ _ _ => False
@[reducible] def mkE (e : TD Ω) : Dn Ω := ⟨e, dTru e, fA, dSeqI e, dSome e⟩
def dGlo (δ : Den Ω) (k : Nat) : TD Ω := match δ.cns[k]? with
  | some i => dCon (.int i)
  | none => fE
def dFn (δ : Den Ω) (k : Nat) (a : TDa Ω) : TD Ω := match δ.fns[k]? with
  | some (n, sp) => dCallN n sp a
  | none => fE
/-- positional arguments a (n of them), keywords b -/
def dCallK (n m : Nat) (sp : FSpec Ω) (a b : TDa Ω) : TD Ω := fun E env ω Q => a E env ω fun ds ω1 => ds.length = n ∧ b E env ω1 fun es ω2 => noOwn (ds ++ es) = true ∧ (ds ++ es).length = m ∧ sp (ds ++ es) ω2 Q E
def dFnK (δ : Den Ω) (k n : Nat) (a b : TDa Ω) : TD Ω := match δ.fns[k]? with
  | some (m, sp) => dCallK n m sp a b
  | none => fE
def den (δ : Den Ω) : CE → Dn Ω
  | .var i => mkE (dVar i)
  | .con x => mkE (dCon x)
  | .glo k => mkE (dGlo δ k)
  | .tup a => mkE (dTup (den δ a).a)
  | .lst o a => mkE (dLst o (den δ a).a)
  | .bin o a b => mkE (dBin o (den δ a).e (den δ b).e)
  | .un o a => mkE (dUn o (den δ a).e)
  | .chain o o' a b c => mkE (dChain o o' (den δ a).e (den δ b).e (den δ c).e)
  | .isN n a => mkE (dIsN n (den δ a).e)
  | .and a b => ⟨dAndV (den δ a).e (den δ b).e, dAnd (den δ a).b (den δ b).b, fA, fI, fO⟩
  | .or a b => ⟨dOrV (den δ a).e (den δ b).e, dOr (den δ a).b (den δ b).b, fA, fI, fO⟩
  | .not a => ⟨dNotV (den δ a).e, dNot (den δ a).b, fA, fI, fO⟩
  | .ite t a b => mkE (dIf (den δ t).b (den δ a).e (den δ b).e)
  | .sl a lo hi => mkE (dSl (den δ a).e (den δ lo).o (den δ hi).o)
  | .no => ⟨fE, fB, fA, fI, dNo⟩
  | .blt b a => mkE (dBlt b (den δ a).a)
  | .isa T a => mkE (dIsa T (den δ a).e)
  | .call k a => mkE (dFn δ k (den δ a).a)
  | .callK k n a b => mkE (dFnK δ k n (den δ a).a (den δ b).a)
  | .comp o it p t e => mkE (dComp o (den δ it).i p (den δ t).b (den δ e).e)
  | .yes => ⟨fE, dYes, fA, fI, fO⟩
  | .nil => ⟨fE, fB, dNil, fI, fO⟩
  | .cons a r => ⟨fE, fB, dCons (den δ a).e (den δ r).a, fI, fO⟩
  | .rng1 a => ⟨fE, fB, fA, dRngA (dCons (den δ a).e dNil), fO⟩
  | .rng2 a b => ⟨fE, fB, fA, dRngB (dCons (den δ a).e (dCons (den δ b).e dNil)), fO⟩
  | .zip a b => ⟨fE, fB, fA, dZip (dCons (den δ a).e (dCons (den δ b).e dNil)), fO⟩
end

/-! ### the check: core term against the text -/
structure Sx where
  N : List Str
  sc : Scope
  fnb : Str → Bool
structure Glob where
  fns : List Str
  cns : List Str
  exs : List Str
  nf : Nat
  kws : List (Nat × Nat × List Str)
def visB (sx : Sx) (x : Str) : Bool := match sx.sc.names.lookup x with
  | some .local => true
  | some .cell => true
  | some .free => true
  | _ => false
def locB (sx : Sx) (x : Str) : Bool := match sx.sc.names.lookup x with
  | some .local => true
  | some .cell => sx.fnb x
  | _ => false
def glB (sx : Sx) (x : Str) : Bool := match sx.sc.names.lookup x with
  | some .globalImplicit => true
  | _ => false
def atB (l : List Str) (i : Nat) (x : Str) : Bool := match l[i]? with
  | some y => decide (y = x)
  | none => false
def okN (x : Str) : Bool := !(x == ("__debug__" : Str)) && !(x == ("__classdict__" : Str))
def notStar : Expr → Bool
  | .Starred _ _ => false
  | _ => true
def plainT : Expr → Bool
  | .UnaryOp .Not _ _ => false
  | .BoolOp _ _ _ => false
  | .IfExp _ _ _ _ => false
  | .Compare _ _ _ _ => false
  | _ => true
def notSlice : Expr → Bool
  | .Slice _ _ _ _ => false
  | _ => true
def notSet : Expr → Bool
  | .Set _ _ _ => false
  | _ => true
/-! the target of an assignment, a for -/
mutual
def patB (sx : Sx) : Pat → Expr → Bool
  | .nm i, .Name x _ => atB sx.N i x && locB sx x
  | .nil, .Tuple es _ _ => patsB sx .nil es
  | .cons p r, .Tuple es _ _ => patsB sx (.cons p r) es
  | _, _ => false
def patsB (sx : Sx) : Pat → List Expr → Bool
  | .nil, [] => true
  | .cons p r, e :: es => notStar e && patB sx p e && patsB sx r es
  | _, _ => false
end
def ownOf (N : List Str) (p : Pat) : List (Str × Nat) := p.slots.map fun i => (N.getD i "", i)
@[reducible] def Sx.blk (sx : Sx) (scope : Scope) : Sx := ⟨sx.N, relS scope sx.sc, fun x => scope.names.lookup x == some .cell⟩
structure Ck where
  e : Sx → Expr → Bool
  b : Sx → Expr → Bool
  a : Sx → List Expr → Bool
  i : Sx → Expr → Expr → Bool
  o : Sx → Option Expr → Bool
  y : Bool
@[reducible] def ckE (f : Sx → Expr → Bool) : Ck := ⟨f, fun sx ex => plainT ex && f sx ex, fun _ _ => false, fun sx _ ex => notSet ex && f sx ex, fun sx oe => match oe with | some ex => f sx ex | none => false, false⟩
@[reducible] def ckF : Ck := ⟨fun _ _ => false, fun _ _ => false, fun _ _ => false, fun _ _ _ => false, fun _ _ => false, false⟩
def allNS : List Expr → Bool
  | [] => true
  | e :: r => notStar e && allNS r
def chk (g : Glob) : CE → Ck
  | .var i => ckE fun sx ex => match ex with
    | .Name x _ => atB sx.N i x && visB sx x && okN x
    | _ => false
  | .con d => ckE fun _ ex => match ex, d with
    | .Constant .none _ _, .none => true
    | .Constant (.bool b) _ _, .bool c => b == c
    | .Constant (.int i) _ _, .int j => decide (i = j)
    | .Constant (.str x) _ _, .str y => decide (x = y)
    | _, _ => false
  | .glo k => ckE fun sx ex => match ex with
    | .Name x _ => atB g.cns k x && glB sx x && okN x
    | _ => false
  | .tup a => ckE fun sx ex => match ex with
    | .Tuple es _ _ => (chk g a).a sx es
    | _ => false
  | .lst _ a => ckE fun sx ex => match ex with
    | .List es _ => (chk g a).a sx es
    | _ => false
  | .bin o a b =>
    let f : Sx → Expr → Bool := fun sx ex => match ex with
      | .BinOp x op y _ => decide (o.bin = some op) && (chk g a).e sx x && (chk g b).e sx y
      | .Compare x [op] [y] _ => decide (o.cmp = some op) && notSet y && (chk g a).e sx x && (chk g b).e sx y
      | .Subscript x y _ => decide (o = .ix) && notSlice y && (chk g a).e sx x && (chk g b).e sx y
      | _ => false
    { ckE f with b := fun sx ex => match ex with
      | .Compare _ [_] [_] _ => f sx ex
      | ex => plainT ex && f sx ex }
  | .un o a => ckE fun sx ex => match ex with
    | .UnaryOp .USub x _ => decide (o = .neg) && (chk g a).e sx x
    | .UnaryOp .Invert x _ => decide (o = .inv) && (chk g a).e sx x
    | _ => false
  | .chain o o' a b c =>
    let f : Sx → Expr → Bool := fun sx ex => match ex with
      | .Compare x [op, op'] [y, z] _ => decide (o.cmp = some op) && decide (o'.cmp = some op') && notSet z && (chk g a).e sx x && (chk g b).e sx y && (chk g c).e sx z
      | _ => false
    { ckE f with b := f }
  | .isN n a =>
    let f : Sx → Expr → Bool := fun sx ex => match ex with
      | .Compare x [op] [.Constant .none _ _] _ => decide (op = if n = true then .IsNot else .Is) && (chk g a).e sx x
      | _ => false
    { ckE f with b := f }
  | .and a b => { ckF with
    e := fun sx ex => match ex with
      | .BoolOp .And [x, y] _ => (chk g a).e sx x && (chk g b).e sx y
      | .BoolOp .And (x :: y :: z :: r) p => (chk g a).e sx x && (chk g b).e sx (.BoolOp .And (y :: z :: r) p)
      | _ => false
    b := fun sx ex => match ex with
      | .BoolOp .And [x, y] _ => (chk g a).b sx x && (chk g b).b sx y
      | .BoolOp .And (x :: y :: z :: r) p => (chk g a).b sx x && (chk g b).b sx (.BoolOp .And (y :: z :: r) p)
      | _ => false }
  | .or a b => { ckF with
    e := fun sx ex => match ex with
      | .BoolOp .Or [x, y] _ => (chk g a).e sx x && (chk g b).e sx y
      | .BoolOp .Or (x :: y :: z :: r) p => (chk g a).e sx x && (chk g b).e sx (.BoolOp .Or (y :: z :: r) p)
      | _ => false
    b := fun sx ex => match ex with
      | .BoolOp .Or [x, y] _ => (chk g a).b sx x && (chk g b).b sx y
      | .BoolOp .Or (x :: y :: z :: r) p => (chk g a).b sx x && (chk g b).b sx (.BoolOp .Or (y :: z :: r) p)
      | _ => false }
  | .not a => { ckF with
    e := fun sx ex => match ex with
      | .UnaryOp .Not x _ => (chk g a).e sx x
      | _ => false
    b := fun sx ex => match ex with
      | .UnaryOp .Not x _ => (chk g a).b sx x
      | _ => false }
  | .ite t a b => ckE fun sx ex => match ex with
    | .IfExp x y z _ => (chk g t).b sx x && (chk g a).e sx y && (chk g b).e sx z
    | _ => false
  | .sl a lo hi => ckE fun sx ex => match ex with
    | .Subscript x (.Slice l u none _) _ => (chk g a).e sx x && (chk g lo).o sx l && (chk g hi).o sx u
    | _ => false
  | .no => { ckF with o := fun _ oe => match oe with | none => true | some _ => false }
  | .blt b a => ckE fun sx ex => match ex with
    | .Call (.Name x _) (e :: es) [] _ => decide (x = b.nm) && glB sx x && allNS (e :: es) && (chk g a).a sx (e :: es)
    | _ => false
  | .isa T a => ckE fun sx ex => match ex with
    | .Call (.Name x _) [e, .Name y _] [] _ => decide (x = ("isinstance" : Str)) && glB sx x && decide (y = Str.ofString T.nm) && glB sx y && notStar e && (chk g a).e sx e
    | _ => false
  | .call k a => ckE fun sx ex => match ex with
    | .Call (.Name x _) es [] _ => decide (k < g.nf) && atB g.fns k x && glB sx x && okN x && allNS es && (chk g a).a sx es
    | _ => false
  | .callK k n a b => ckE fun sx ex => match ex with
    | .Call (.Name x _) es kws _ => decide (k < g.nf) && atB g.fns k x && glB sx x && okN x && allNS es && decide (es.length = n) && (chk g a).a sx es && decide ((k, n, kws.filterMap (·.arg)) ∈ g.kws) && kws.all (·.arg.isSome) && decide (kws ≠ []) && (chk g b).a sx (kws.map (·.value))
    | _ => false
  | .comp _ it p t e => ckE fun sx ex => match ex with
    | .ListComp elt [⟨tg, iter, ifs, 0⟩] scope _ => (chk g it).i sx tg iter && notSet iter && patB (sx.blk scope) p tg && blkC sx.N sx.sc scope (ownOf sx.N p) &&
      (match ifs with
        | [] => (chk g t).y
        | [c] => (chk g t).b (sx.blk scope) c
        | _ => false) && (chk g e).e (sx.blk scope) elt
    | _ => false
  | .yes => { ckF with y := true }
  | .nil => { ckF with a := fun _ es => match es with | [] => true | _ :: _ => false }
  | .cons a r => { ckF with a := fun sx es => match es with | e :: es => notStar e && (chk g a).e sx e && (chk g r).a sx es | [] => false }
  | .rng1 a => { ckF with i := fun sx _ ex => match ex with
    | .Call (.Name x _) [e] [] _ => decide (x = ("range" : Str)) && glB sx x && notStar e && (chk g a).e sx e
    | _ => false }
  | .rng2 a b => { ckF with i := fun sx _ ex => match ex with
    | .Call (.Name x _) [e, e'] [] _ => decide (x = ("range" : Str)) && glB sx x && notStar e && notStar e' && (chk g a).e sx e && (chk g b).e sx e'
    | _ => false }
  | .zip a b => { ckF with i := fun sx tg ex => match ex, tg with
    | .Call (.Name x _) [e, e'] [] _, .Tuple _ _ _ => decide (x = ("zip" : Str)) && glB sx x && notStar e && notStar e' && (chk g a).e sx e && (chk g b).e sx e'
    | _, _ => false }
end Q
namespace Q
open PySem PySem.Spec PyProof.Rows L2
/-! ### small facts of the text -/
theorem star1 {e : Expr} {es : List Expr} {env : Env} (h : notStar e = true) : starEach (e :: es) env = (false, eval e env) :: starEach es env := by
  cases e <;> first | rfl | (simp [notStar] at h)
theorem starAll {es : List Expr} {env : Env} {pos : Pos} (h : allNS es = true) : (backTo pos (starEach es env)).any (·.1) = false := by
  induction es with
  | nil => rfl
  | cons e r ih =>
    simp only [allNS, Bool.and_eq_true] at h
    rw [star1 h.1]
    have := ih h.2
    simp only [backTo, List.map_cons, List.any_cons] at this ⊢
    simpa using this
theorem plainT_ok {e : Expr} {env : Env} (h : plainT e = true) : ∀ whole, isTrue e env whole = (do let v ← whole; standAt e.pos; holding [v] (truthy v)) := by
  intro whole
  cases e with
  | UnaryOp op x p => cases op <;> first | rfl | (simp [plainT] at h)
  | BoolOp _ _ _ => simp [plainT] at h
  | IfExp _ _ _ _ => simp [plainT] at h
  | Compare _ _ _ _ => simp [plainT] at h
  | _ => rfl
theorem notSlice_ok {e : Expr} (h : notSlice e = true) : PlainIx e := by
  intro o i
  cases e <;> first | rfl | (simp [notSlice] at h)
theorem notSet_ok {e : Expr} {op : CmpOp} (h : notSet e = true) : behindInMarks op e = false := by
  cases e <;> first | rfl | (simp [notSet] at h)
theorem notSet_fold {e : Expr} {env : Env} (h : notSet e = true) : ∀ x, foldedSetIterable e env x = pure x := by
  intro x
  cases e <;> first | rfl | (simp [notSet] at h)
theorem visB_ok {sx : Sx} {x : Str} (h : visB sx x = true) : Vis sx.sc x := by
  unfold visB at h
  split at h
  · exact .inl (by assumption)
  · exact .inr (.inl (by assumption))
  · exact .inr (.inr (by assumption))
  · cases h
theorem locB_ok {sx : Sx} {x : Str} (h : locB sx x = true) : Loc sx.sc x ∧ (sx.fnb x = true ∨ sx.sc.names.lookup x = some .local) := by
  unfold locB at h
  split at h
  · exact ⟨.inl (by assumption), .inr (by assumption)⟩
  · exact ⟨.inr (by assumption), .inl h⟩
  · cases h
theorem glB_ok {sx : Sx} {x : Str} (h : glB sx x = true) : sx.sc.names.lookup x = some .globalImplicit := by
  unfold glB at h
  split at h
  · assumption
  · cases h
theorem atB_ok {l : List Str} {i : Nat} {x : Str} (h : atB l i x = true) : l[i]? = some x := by
  unfold atB at h
  split at h
  · rename_i y e
    rw [e, of_decide_eq_true h]
  · cases h
theorem okN_ok {x : Str} (h : okN x = true) : (x == ("__debug__" : Str)) = false ∧ (x == ("__classdict__" : Str)) = false := by
  unfold okN at h
  rw [Bool.and_eq_true] at h
  exact ⟨by simpa using h.1, by simpa using h.2⟩
/-! ### the context -/
def bltNames : List Str := ["len", "tuple", "list", "all", "sorted", "min", "max", "isinstance", "int", "bool", "str", "range", "zip", "enumerate", "set", "dict"]
def gN {α : Type} (n : Nat) (us ws : List α) : List α := if us.length = n then us ++ ws else []
structure FnI {Ω : Type} (W : Ω → Hp → Prop) (cx : Nat → Value) (g : Glob) (X : Cx) (k : Nat) (x : Str) (m : Nat) (sp : FSpec Ω) (f : Addr) (fd : FuncData) (ps : List Str) (lv : Nat) : Prop where
  len : ps.length = m
  mg : X.mg x = some (.ref f)
  kp : PySem.W.keepIn X.K (.ref f) = true
  bd : L2.Binds X.K fd ps []
  kb : ∀ n ks, (k, n, ks) ∈ g.kws → KBinds X.K fd ps ks (gN n) (gN n)
  ok : FnOk X.prog X.w X.K X.mg X.base (L2.CX X.prog X.w) lv f fd ps (spOf W cx ps.length sp)
  rm : Room lv X.A
structure Ctx {Ω : Type} (W : Ω → Hp → Prop) (δ : Den Ω) (g : Glob) (sx : Sx) (C : Cxx) (X : Cx) : Prop where
  hN : X.N = sx.N
  nd : sx.N.Nodup
  sc : X.env.scope = sx.sc
  fn : X.fn = sx.fnb
  calm : X.calm = true
  hu : X.A.units + 64 < cLine
  tk : Takes X fun cls d _ H => C.wx cls d H
  blt : ∀ x, x ∈ bltNames → X.mg x = none
  con : ∀ (k : Nat) x, g.cns[k]? = some x → ∃ i t, X.mg x = some (.int i t) ∧ δ.cns[k]? = some i
  fns : ∀ (k : Nat) x, k < g.nf → g.fns[k]? = some x → ∃ m sp f fd ps lv, δ.fns[k]? = some (m, sp) ∧ FnI W C.cx g X k x m sp f fd ps lv
theorem Ctx.gl {Ω : Type} {W : Ω → Hp → Prop} {δ : Den Ω} {g : Glob} {sx : Sx} {C : Cxx} {X : Cx} (c : Ctx W δ g sx C X) {x : Str} (h : glB sx x = true) : Gl X x := by
  show X.env.scope.names.lookup x = _
  rw [c.sc]; exact glB_ok h
theorem Ctx.blk {Ω : Type} {W : Ω → Hp → Prop} {δ : Den Ω} {g : Glob} {sx : Sx} {C : Cxx} {X : Cx} (c : Ctx W δ g sx C X) (scope : Scope) (s : Shared) (H : Hp) (C0 : Addr) (cl : List (Str × Addr)) (fp : List Addr) : Ctx W δ g (sx.blk scope) C.none (X.blk s H scope (compEnvC scope cl C0 X.env) fp) where
  hN := c.hN
  nd := c.nd
  sc := by
    show (compEnvC scope cl C0 X.env).scope = relS scope sx.sc
    rw [← c.sc]; rfl
  fn := rfl
  calm := c.calm
  hu := c.hu
  tk := L2.takes0
  blt := c.blt
  con := c.con
  fns := fun k x h e => by
    obtain ⟨m, sp, f, fd, ps, lv, e1, F⟩ := c.fns k x h e
    exact ⟨m, sp, f, fd, ps, lv, e1, ⟨F.len, F.mg, F.kp, F.bd, F.kb, F.ok, F.rm⟩⟩
section
variable {Ω : Type} {W : Ω → Hp → Prop} {δ : Den Ω} {g : Glob} {sx : Sx} {C : Cxx} {X : Cx}
mutual
theorem pat_pg (c : Ctx W δ g sx C X) : ∀ (p : Pat) (tg : Expr), patB sx p tg = true → PG X tg (gP X.K p)
  | .nm i, tg, h => by
    cases tg with
    | Name x pos =>
      simp only [patB, Bool.and_eq_true] at h
      obtain ⟨h1, h2⟩ := locB_ok h.2
      simp only [gP]
      exact pg_name (by rw [c.hN]; exact c.nd) (by rw [c.hN]; exact atB_ok h.1) (by rw [c.sc]; exact h1) (by rw [c.fn, c.sc]; exact h2)
    | _ => simp [patB] at h
  | .nil, tg, h => by
    cases tg with
    | Tuple es k pos =>
      simp only [patB] at h
      obtain ⟨a, b, d⟩ := pats_pg c .nil es h
      simp only [gP]
      exact pg_tup c.calm (by simpa only [gPs] using a) (by simpa [Pat.len] using b) d
    | _ => simp [patB] at h
  | .cons p r, tg, h => by
    cases tg with
    | Tuple es k pos =>
      simp only [patB] at h
      obtain ⟨a, b, d⟩ := pats_pg c (.cons p r) es h
      simp only [gP]
      exact pg_tup c.calm (by simpa only [gPs] using a) (by simpa [Pat.len] using b) d
    | _ => simp [patB] at h
theorem pats_pg (c : Ctx W δ g sx C X) : ∀ (p : Pat) (es : List Expr), patsB sx p es = true → PGs X es (gPs X.K p) ∧ (assignEach es X.env).length = p.len ∧ (assignEach es X.env).findIdx? (·.1) = none
  | .nil, [], h => ⟨by simp only [gPs]; exact pgs_nil, rfl, rfl⟩
  | .nil, _ :: _, h => by simp [patsB] at h
  | .cons p r, [], h => by simp [patsB] at h
  | .cons p r, e :: es, h => by
    simp only [patsB, Bool.and_eq_true] at h
    obtain ⟨⟨h0, h1⟩, h2⟩ := h
    obtain ⟨a, b, d⟩ := pats_pg c r es h2
    have hs : assignEach (e :: es) X.env = (false, assign e X.env) :: assignEach es X.env := by
      cases e <;> first | rfl | (simp [notStar] at h0)
    refine ⟨by simp only [gPs]; exact pgs_cons (pat_pg c p e h1) a (by rw [hs]; rfl), by rw [hs, List.length_cons, b]; rfl, by rw [hs]; simp [List.findIdx?_cons, d]⟩
  | .nm _, _, h => by simp [patsB] at h
end
end
end Q
namespace Q
open PySem PySem.Spec PyProof.Rows L2
section
variable {Ω : Type} {W : Ω → Hp → Prop} {δ : Den Ω} {g : Glob}
/-- the readings of a core term are readings of the text that it was checked against -/
structure Snd (W : Ω → Hp → Prop) (δ : Den Ω) (g : Glob) (c : CE) : Prop where
  e : ∀ {sx C X}, Ctx W δ g sx C X → ∀ ex, (chk g c).e sx ex = true → PE X ex (tOf W C (den δ c).e)
  b : ∀ {sx C X}, Ctx W δ g sx C X → ∀ ex, (chk g c).b sx ex = true → PT X ex (bOf W C (den δ c).b)
  w : ∀ {sx C X}, Ctx W δ g sx C X → ∀ op l p, (chk g c).b sx (.BoolOp op l p) = true → PW X (.BoolOp op l p) (bOf W C (den δ c).b)
  a : ∀ {sx C X}, Ctx W δ g sx C X → ∀ es, (chk g c).a sx es = true → PA X es (aOf W C (den δ c).a)
  i : ∀ {sx C X}, Ctx W δ g sx C X → ∀ tg ex, (chk g c).i sx tg ex = true → PI X tg ex (iOf W C (den δ c).i) ∧ notSet ex = true
  o : ∀ {sx C X}, Ctx W δ g sx C X → ∀ oe, (chk g c).o sx oe = true → PO X oe (oOf W C (den δ c).o)
  y : (chk g c).y = true → (den δ c).b = dYes
  k : ∀ {sx C X}, Ctx W δ g sx C X → ∀ kws : List Keyword, (chk g c).a sx (kws.map (·.value)) = true → PK X kws (aOf W C (den δ c).a)
theorem notF {p : Prop} (h : false = true) : p := by cases h
/-- a plain expression -/
theorem snd_plain {c : CE} {f : Sx → Expr → Bool} {t : TD Ω} (hc : chk g c = ckE f) (hd : den δ c = mkE t) (h : ∀ {sx C X}, Ctx W δ g sx C X → ∀ ex, f sx ex = true → PE X ex (tOf W C t)) : Snd W δ g c := by
  refine ⟨?_, ?_, ?_, ?_, ?_, ?_, ?_, ?_⟩ <;> rw [hc, hd]
  · exact fun c ex q => h c ex q
  · intro sx C X c ex q
    rw [Bool.and_eq_true] at q
    exact dt_tru (h c ex q.2) (plainT_ok q.1)
  · intro sx C X c op l p q
    simp [plainT] at q
  · exact fun _ _ q => notF q
  · intro sx C X c tg ex q
    rw [Bool.and_eq_true] at q
    exact ⟨di_seq (h c ex q.2), q.1⟩
  · intro sx C X c oe q
    cases oe with
    | none => cases q
    | some ex => exact do_some (h c ex q)
  · exact fun q => notF q
  · exact fun _ _ q => notF q
theorem snd_var (i : Nat) : Snd W δ g (.var i) := snd_plain rfl rfl fun c ex q => by
  cases ex with
  | Name x pos =>
    simp only [Bool.and_eq_true] at q
    obtain ⟨⟨q1, q2⟩, q3⟩ := q
    exact de_var (by rw [c.hN]; exact atB_ok q1) (by rw [c.sc]; exact visB_ok q2) (okN_ok q3).1 (okN_ok q3).2
  | _ => cases q
theorem snd_con (d : PyData) : Snd W δ g (.con d) := snd_plain rfl rfl fun c ex q => by
  cases ex with
  | Constant k n pos =>
    cases k <;> cases d <;> try (cases q; done)
    · exact de_con pe_non fun _ => .non
    · cases beq_iff_eq.mp q; exact de_con pe_bl fun _ => .bl _
    · cases of_decide_eq_true q; exact de_con pe_int fun _ => .int _
    · cases of_decide_eq_true q; exact de_con pe_str fun _ => .str _
  | _ => cases d <;> cases q
theorem snd_glo (k : Nat) : Snd W δ g (.glo k) := snd_plain rfl rfl fun c ex q => by
  cases ex with
  | Name x pos =>
    simp only [Bool.and_eq_true] at q
    obtain ⟨⟨q1, q2⟩, q3⟩ := q
    obtain ⟨i, t, e1, e2⟩ := c.con k x (atB_ok q1)
    unfold dGlo
    rw [e2]
    exact de_con (pe_glob (v := .int i) (c.gl q2) e1 ⟨t, rfl⟩ (okN_ok q3).1) fun _ => .int _
  | _ => cases q
theorem snd_tup {a : CE} (sa : Snd W δ g a) : Snd W δ g (.tup a) := snd_plain rfl rfl fun c ex q => by
  cases ex with
  | Tuple es k pos => exact de_tup (sa.a c es q)
  | _ => cases q
theorem snd_lst {o : Bool} {a : CE} (sa : Snd W δ g a) : Snd W δ g (.lst o a) := snd_plain rfl rfl fun c ex q => by
  cases ex with
  | List es pos => exact de_lst (sa.a c es q)
  | _ => cases q
theorem snd_bin {o : Op2} {a b : CE} (sa : Snd W δ g a) (sb : Snd W δ g b) : Snd W δ g (.bin o a b) := by
  have he : ∀ {sx C X}, Ctx W δ g sx C X → ∀ ex, (chk g (.bin o a b)).e sx ex = true → PE X ex (tOf W C (dBin o (den δ a).e (den δ b).e)) := fun {sx C X} c ex q => by
    cases ex with
    | BinOp x op y pos =>
      simp only [chk, Bool.and_eq_true] at q
      exact de_bin (of_decide_eq_true q.1.1) (sa.e c x q.1.2) (sb.e c y q.2)
    | Compare x ops ys pos =>
      simp only [chk] at q
      split at q
      · rename_i e; cases e
      · rename_i e; cases e
        simp only [Bool.and_eq_true] at q
        exact de_cmp (of_decide_eq_true q.1.1.1) c.hu (sa.e c _ q.1.2) (sb.e c _ q.2) (notSet_ok q.1.1.2)
      · rename_i e; cases e
      · cases q
    | Subscript x y pos =>
      simp only [chk, Bool.and_eq_true] at q
      cases of_decide_eq_true q.1.1.1
      exact de_ix (sa.e c x q.1.2) (sb.e c y q.2) (notSlice_ok q.1.1.2)
    | _ => simp [chk] at q
  refine ⟨he, ?_, ?_, ?_, ?_, ?_, ?_, ?_⟩
  · intro sx C X c ex q
    have q' := q
    simp only [chk] at q
    split at q
    · rename_i x op y pos
      simp only [Bool.and_eq_true] at q
      exact dt_cmp (of_decide_eq_true q.1.1.1) c.hu (sa.e c _ q.1.2) (sb.e c _ q.2) (notSet_ok q.1.1.2)
    · rw [Bool.and_eq_true] at q
      exact dt_tru (he c ex (by simp only [chk]; exact q.2)) (plainT_ok q.1)
  · intro sx C X c op l p q
    simp [chk, plainT] at q
  · exact fun _ _ q => notF q
  · intro sx C X c tg ex q
    simp only [chk] at q
    rw [Bool.and_eq_true] at q
    exact ⟨di_seq (he c ex (by simp only [chk]; exact q.2)), q.1⟩
  · intro sx C X c oe q
    cases oe with
    | none => simp [chk] at q
    | some ex => exact do_some (he c ex (by simpa only [chk] using q))
  · intro q; simp [chk] at q
  · exact fun _ _ q => notF q
/-- a plain expression whose test is its own -/
theorem snd_own {c : CE} {f : Sx → Expr → Bool} {t : TD Ω} (hc : chk g c = { ckE f with b := f }) (hd : den δ c = mkE t) (h : ∀ {sx C X}, Ctx W δ g sx C X → ∀ ex, f sx ex = true → PE X ex (tOf W C t)) (hb : ∀ {sx C X}, Ctx W δ g sx C X → ∀ ex, f sx ex = true → PT X ex (bOf W C (dTru t)))
    (hn : ∀ sx op l p, f sx (.BoolOp op l p) = false) : Snd W δ g c := by
  refine ⟨?_, ?_, ?_, ?_, ?_, ?_, ?_, ?_⟩ <;> rw [hc, hd]
  · exact fun c ex q => h c ex q
  · exact fun c ex q => hb c ex q
  · intro sx C X c op l p q
    have z := hn sx op l p
    have q' : f sx (.BoolOp op l p) = true := q
    rw [z] at q'; cases q'
  · exact fun _ _ q => notF q
  · intro sx C X c tg ex q
    rw [Bool.and_eq_true] at q
    exact ⟨di_seq (h c ex q.2), q.1⟩
  · intro sx C X c oe q
    cases oe with
    | none => cases q
    | some ex => exact do_some (h c ex q)
  · exact fun q => notF q
  · exact fun _ _ q => notF q
theorem snd_un {o : Op1} {a : CE} (sa : Snd W δ g a) : Snd W δ g (.un o a) := snd_plain rfl rfl fun c ex q => by
  cases ex with
  | UnaryOp op x pos =>
    cases op with
    | USub =>
      simp only [Bool.and_eq_true] at q
      cases of_decide_eq_true q.1
      exact de_neg (sa.e c x q.2)
    | Invert =>
      simp only [Bool.and_eq_true] at q
      cases of_decide_eq_true q.1
      exact de_inv (sa.e c x q.2)
    | _ => cases q
  | _ => cases q
theorem snd_chain {o o' : Op2} {a b d : CE} (sa : Snd W δ g a) (sb : Snd W δ g b) (sd : Snd W δ g d) : Snd W δ g (.chain o o' a b d) := snd_own rfl rfl (fun c ex q => by
    cases ex with
    | Compare x ops ys pos =>
      try simp only at q
      split at q
      · rename_i e; cases e
        simp only [Bool.and_eq_true] at q
        obtain ⟨⟨⟨⟨⟨q1, q2⟩, q3⟩, q4⟩, q5⟩, q6⟩ := q
        exact de_chain (of_decide_eq_true q1) (of_decide_eq_true q2) c.hu (sa.e c _ q4) (sb.e c _ q5) (sd.e c _ q6) (notSet_ok q3)
      · cases q
    | _ => cases q) (fun c ex q => by
    cases ex with
    | Compare x ops ys pos =>
      try simp only at q
      split at q
      · rename_i e; cases e
        simp only [Bool.and_eq_true] at q
        obtain ⟨⟨⟨⟨⟨q1, q2⟩, q3⟩, q4⟩, q5⟩, q6⟩ := q
        exact dt_chain (of_decide_eq_true q1) (of_decide_eq_true q2) c.hu (sa.e c _ q4) (sb.e c _ q5) (sd.e c _ q6) (notSet_ok q3)
      · cases q
    | _ => cases q) fun _ _ _ _ => rfl
theorem snd_isN {n : Bool} {a : CE} (sa : Snd W δ g a) : Snd W δ g (.isN n a) := snd_own rfl rfl (fun c ex q => by
    cases ex with
    | Compare x ops ys pos =>
      try simp only at q
      split at q
      · rename_i e; cases e
        simp only [Bool.and_eq_true] at q
        rw [of_decide_eq_true q.1]
        exact de_isN (sa.e c _ q.2)
      · cases q
    | _ => cases q) (fun c ex q => by
    cases ex with
    | Compare x ops ys pos =>
      try simp only at q
      split at q
      · rename_i e; cases e
        simp only [Bool.and_eq_true] at q
        rw [of_decide_eq_true q.1]
        exact dt_isN (sa.e c _ q.2)
      · cases q
    | _ => cases q) fun _ _ _ _ => rfl
theorem snd_and {a b : CE} (sa : Snd W δ g a) (sb : Snd W δ g b) : Snd W δ g (.and a b) := by
  have hw : ∀ {sx C X}, Ctx W δ g sx C X → ∀ ex, (chk g (.and a b)).b sx ex = true → PW X ex (bOf W C (dAnd (den δ a).b (den δ b).b)) := fun {sx C X} c ex q => by
    simp only [chk] at q
    split at q
    · rw [Bool.and_eq_true] at q
      exact dw_and (sa.b c _ q.1) (dw_and1 (sb.b c _ q.2))
    · rw [Bool.and_eq_true] at q
      exact dw_and (sa.b c _ q.1) (sb.w c _ _ _ q.2)
    · cases q
  refine ⟨?_, fun c ex q => (hw c ex q).pt, fun c op l p q => hw c _ q, ?_, ?_, ?_, ?_, ?_⟩
  · intro sx C X c ex q
    simp only [chk] at q
    split at q
    · rw [Bool.and_eq_true] at q
      exact de_and (sa.e c _ q.1) (de_one (sb.e c _ q.2))
    · rw [Bool.and_eq_true] at q
      exact de_and (sa.e c _ q.1) (sb.e c _ q.2)
    · cases q
  all_goals intros; simp_all [chk]
theorem snd_or {a b : CE} (sa : Snd W δ g a) (sb : Snd W δ g b) : Snd W δ g (.or a b) := by
  have hw : ∀ {sx C X}, Ctx W δ g sx C X → ∀ ex, (chk g (.or a b)).b sx ex = true → PW X ex (bOf W C (dOr (den δ a).b (den δ b).b)) := fun {sx C X} c ex q => by
    simp only [chk] at q
    split at q
    · rw [Bool.and_eq_true] at q
      exact dw_or (sa.b c _ q.1) (dw_or1 (sb.b c _ q.2))
    · rw [Bool.and_eq_true] at q
      exact dw_or (sa.b c _ q.1) (sb.w c _ _ _ q.2)
    · cases q
  refine ⟨?_, fun c ex q => (hw c ex q).pt, fun c op l p q => hw c _ q, ?_, ?_, ?_, ?_, ?_⟩
  · intro sx C X c ex q
    simp only [chk] at q
    split at q
    · rw [Bool.and_eq_true] at q
      exact de_or (sa.e c _ q.1) (de_one (sb.e c _ q.2))
    · rw [Bool.and_eq_true] at q
      exact de_or (sa.e c _ q.1) (sb.e c _ q.2)
    · cases q
  all_goals intros; simp_all [chk]
theorem snd_not {a : CE} (sa : Snd W δ g a) : Snd W δ g (.not a) := by
  refine ⟨?_, ?_, ?_, ?_, ?_, ?_, ?_, ?_⟩
  · intro sx C X c ex q
    simp only [chk] at q
    split at q
    · exact de_not (sa.e c _ q)
    · cases q
  · intro sx C X c ex q
    simp only [chk] at q
    split at q
    · exact dt_not (sa.b c _ q)
    · cases q
  all_goals intros; simp_all [chk]
theorem snd_ite {t a b : CE} (st : Snd W δ g t) (sa : Snd W δ g a) (sb : Snd W δ g b) : Snd W δ g (.ite t a b) := snd_plain rfl rfl fun c ex q => by
  cases ex with
  | IfExp x y z pos =>
    simp only [Bool.and_eq_true] at q
    exact de_if (st.b c x q.1.1) (sa.e c y q.1.2) (sb.e c z q.2)
  | _ => cases q
theorem snd_sl {a lo hi : CE} (sa : Snd W δ g a) (sl : Snd W δ g lo) (sh : Snd W δ g hi) : Snd W δ g (.sl a lo hi) := snd_plain rfl rfl fun c ex q => by
  cases ex with
  | Subscript x y pos =>
    try simp only at q
    split at q
    · rename_i e; cases e
      simp only [Bool.and_eq_true] at q
      exact de_sl (sa.e c _ q.1.1) (sl.o c _ q.1.2) (sh.o c _ q.2)
    · cases q
  | _ => cases q
theorem snd_no : Snd W δ g .no := by
  refine { e := ?e, b := ?b, w := ?w, a := ?a, i := ?i, o := ?o, y := ?y, k := ?k }
  case o =>
    intro sx C X c oe q
    cases oe with
    | none => exact do_none
    | some _ => simp [chk] at q
  all_goals intros; simp_all [chk]
theorem snd_yes : Snd W δ g .yes := by
  refine { e := ?e, b := ?b, w := ?w, a := ?a, i := ?i, o := ?o, y := ?y, k := ?k }
  case y => exact fun _ => rfl
  all_goals intros; simp_all [chk]
theorem pk_imp {X : Cx} {e : List Keyword} {t t' : TA} (h : PK X e t) (i : ∀ σ H Q, t' σ H Q → t σ H Q) : PK X e t' := ⟨fun pos pins s σ H Q I q => h.run pos pins s σ H Q I (i σ H Q q)⟩
theorem snd_nil : Snd W δ g .nil := by
  refine { e := ?e, b := ?b, w := ?w, a := ?a, i := ?i, o := ?o, y := ?y, k := ?k }
  case a =>
    intro sx C X c es q
    cases es with
    | nil => exact da_nil
    | cons _ _ => simp [chk] at q
  case k =>
    intro sx C X c kws q
    cases kws with
    | nil =>
      refine pk_imp pk_nil fun σ H Q h => ?_
      obtain ⟨env, ω, F, M, Ec, Qc, j, ht, hx, k⟩ := h
      exact k _ _ _ _ _ _ ht j.hw (Ex.refl H F M) .nil
    | cons _ _ => simp [chk] at q
  all_goals intros; simp_all [chk]
theorem snd_cons {a r : CE} (sa : Snd W δ g a) (sr : Snd W δ g r) : Snd W δ g (.cons a r) := by
  refine { e := ?e, b := ?b, w := ?w, a := ?a, i := ?i, o := ?o, y := ?y, k := ?k }
  case a =>
    intro sx C X c es q
    cases es with
    | nil => simp [chk] at q
    | cons e es =>
      simp only [chk, Bool.and_eq_true] at q
      exact da_cons (sa.e c e q.1.2) (sr.a c es q.2) (star1 q.1.1)
  case k =>
    intro sx C X c kws q
    cases kws with
    | nil => simp [chk] at q
    | cons kw kws =>
      simp only [chk, List.map_cons, Bool.and_eq_true] at q
      obtain ⟨nm, v, kp⟩ := kw
      refine pk_imp (pk_cons (sa.e c v q.1.2) (sr.k c kws q.2)) fun σ H Q h => ?_
      obtain ⟨env, ω, F, M, Ec, Qc, j, ht, hx, k⟩ := h
      refine ⟨env, ω, F, M, Ec, _, j, ht, hx, fun x ω1 v1 H1 F1 M1 q1 hw1 ex1 r1 => ?_⟩
      refine ⟨env, ω1, F1, M1, Ec, _, j.step hw1 ex1, q1, hx.step ex1, fun xs ω2 vs H2 F2 M2 q2 hw2 ex2 r2 => ?_⟩
      exact k _ _ _ _ _ _ q2 hw2 (ex1.trans ex2) (.cons (r1.step ex2) (r2.back ex1.al))
  all_goals intros; simp_all [chk]
theorem Blt.mem : ∀ b : Blt, b.nm ∈ bltNames := by intro b; cases b <;> decide
theorem Ty.mem : ∀ T : Ty, Str.ofString T.nm ∈ bltNames := by intro T; cases T <;> decide
end
end Q
namespace Q
open PySem PySem.Spec PyProof.Rows L2
section
variable {Ω : Type} {W : Ω → Hp → Prop} {δ : Den Ω} {g : Glob}
theorem snd_blt {b : Blt} {a : CE} (sa : Snd W δ g a) : Snd W δ g (.blt b a) := snd_plain rfl rfl fun c ex q => by
  cases ex with
  | Call f args kws pos =>
    split at q
    · rename_i e; cases e
      simp only [Bool.and_eq_true] at q
      obtain ⟨⟨⟨q1, q2⟩, q3⟩, q4⟩ := q
      have e := of_decide_eq_true q1
      subst e
      have q3' := q3
      simp only [allNS, Bool.and_eq_true] at q3'
      exact de_blt c.calm c.hu (c.gl q2) (c.blt _ b.mem) (sa.a c _ q4) (star1 q3'.1) (starAll q3'.2)
    · cases q
  | _ => cases q
theorem snd_isa {T : Ty} {a : CE} (sa : Snd W δ g a) : Snd W δ g (.isa T a) := snd_plain rfl rfl fun c ex q => by
  cases ex with
  | Call f args kws pos =>
    split at q
    · rename_i e; cases e
      simp only [Bool.and_eq_true] at q
      obtain ⟨⟨⟨⟨⟨q1, q2⟩, q3⟩, q4⟩, q5⟩, q6⟩ := q
      have e := of_decide_eq_true q1
      have e2 := of_decide_eq_true q3
      subst e e2
      exact de_isa (c.gl q2) (c.blt _ (by decide)) (c.gl q4) (c.blt _ T.mem) (sa.e c _ q6) (star1 q5)
    · cases q
  | _ => cases q
theorem snd_call {k : Nat} {a : CE} (sa : Snd W δ g a) : Snd W δ g (.call k a) := snd_plain rfl rfl fun c ex q => by
  cases ex with
  | Call f args kws pos =>
    split at q
    · rename_i e; cases e
      simp only [Bool.and_eq_true] at q
      obtain ⟨⟨⟨⟨⟨q1, q2⟩, q3⟩, q4⟩, q5⟩, q6⟩ := q
      obtain ⟨m, sp, f, fd, ps, lv, e1, F⟩ := c.fns k _ (of_decide_eq_true q1) (atB_ok q2)
      unfold dFn
      rw [e1]
      have hl := F.len
      subst hl
      cases args with
      | nil =>
        have hp : (den δ a).a = dNil := by cases a <;> first | rfl | (simp [chk] at q6; done)
        rw [hp]
        exact de_call0 F.ok F.rm (c.gl q3) F.mg F.kp F.bd c.tk (okN_ok q4).1
      | cons e es =>
        simp only [allNS, Bool.and_eq_true] at q5
        exact de_call F.ok F.rm (c.gl q3) F.mg F.kp F.bd c.tk (sa.a c _ q6) (okN_ok q4).1 (star1 q5.1) (starAll q5.2)
    · cases q
  | _ => cases q
theorem kw_some : ∀ {kws : List Keyword} {env : Env} {pos : Pos}, kws.all (·.arg.isSome) = true → (backToKw pos (keywordEach kws env)).all (·.1.isSome) = true ∧ (backToKw pos (keywordEach kws env)).filterMap (·.1) = kws.filterMap (·.arg) ∧ (backToKw pos (keywordEach kws env)).any (·.1.isNone) = false
  | [], _, _, _ => ⟨rfl, rfl, rfl⟩
  | ⟨nm, v, p⟩ :: kws, env, pos, h => by
    simp only [List.all_cons, Bool.and_eq_true] at h
    obtain ⟨a, b, d⟩ := kw_some (env := env) (pos := pos) h.2
    cases nm with
    | none => simp at h
    | some x =>
      simp only [backToKw, keywordEach, List.map_cons, List.all_cons, List.filterMap_cons, List.any_cons] at a b d ⊢
      exact ⟨by simpa using a, congrArg (x :: ·) b, by simpa using d⟩
theorem pe_callK0 {X : Cx} {CX : CXT} {k : Nat} {f : Addr} {fd : FuncData} {ps ks : List Str} {sp : Sp} {E : XK} {x : Str} {p pos : Pos} {kws : List Keyword} {tk : TA} {gv : List Value → List Value → List Value} {gV : List V → List V → List V} (F : FnOk X.prog X.w X.K X.mg X.base CX k f fd ps sp) (hr : Room k X.A) (hg : Gl X x) (hm : X.mg x = some (.ref f)) (hk : PySem.W.keepIn X.K (.ref f) = true) (hb : KBinds X.K fd ps ks gv gV) (hx : Passes CX X E)
    (hkw : PK X kws tk) (hall : (backToKw pos (keywordEach kws X.env)).all (·.1.isSome) = true) (hks : (backToKw pos (keywordEach kws X.env)).filterMap (·.1) = ks)
    (hdb : (x == ("__debug__" : Str)) = false) (hpl : ((backTo pos (starEach [] X.env)).any (·.1) || (backToKw pos (keywordEach kws X.env)).any (·.1.isNone)) = false) :
    PE X (.Call (.Name x p) [] kws pos) (tCallK sp gV E tNil tk) := by
  refine ⟨fun pins s σ H Q I h => ?_⟩
  refine wpAny_Call_Name_kw (ld_glob I hg hm ?_ hdb)
  refine PySem.W.callWith_KW0 (h₀ := X.base) I.ok.mod.kin hk hall (thn (hkw.run pos pins s σ H _ I h) fun ws s2 ⟨zs, H2, I2, rz, q2⟩ => ⟨I2.kIn, ?_⟩) hpl
  rw [hks]
  exact run_fnk F hr hb hx I2 .nil rz q2
theorem imp_callK {C : Cxx} {n m : Nat} {sp : FSpec Ω} {a b : TDa Ω} (σ : L2.St) (H : Hp) (Q : VK) (h : tOf W C (dCallK n m sp a b) σ H Q) : aOf W C a σ H fun vs H1 => aOf W C b σ H1 fun zs H2 => spOf W C.cx m sp (gN n vs zs) H2 Q C.wx := by
  obtain ⟨env, ω, F, M, Ec, Qc, j, ht, hx, k⟩ := h
  refine ⟨env, ω, F, M, Ec, _, j, ht, hx, fun ds ω1 vs H1 F1 M1 q1 hw1 ex1 r1 => ?_⟩
  obtain ⟨hn, q1⟩ := q1
  refine ⟨env, ω1, F1, M1, Ec, _, j.step hw1 ex1, q1, hx.step ex1, fun es ω2 zs H2 F2 M2 q2 hw2 ex2 r2 => ?_⟩
  obtain ⟨no, hm, q⟩ := q2
  have ex := ex1.trans ex2
  have hv : vs.length = n := by rw [← hn]; exact Paired.length r1
  have hr : RDs H F2 M2 H2 (vs ++ zs) (ds ++ es) := by
    have r1' := r1.step ex2
    have r2' := r2.back ex1.al
    clear q1 ht r1 no hm q hn hv
    induction r1' with
    | nil => exact r2'
    | cons a b ih => exact .cons a ih
  unfold gN
  rw [if_pos hv]
  exact ⟨F2, M2, ω2, ds ++ es, Qc, Ec, hw2, rds_noOwn no hr, hm, q, fun d ω' v H' F' M' q hw' ex' r' => k d ω' v H' F' M' q hw' (ex.trans ex') (r'.back ex.al), fun c ω' H' F' M' e hw' ex' => hx c ω' H' F' M' e hw' (ex.trans ex')⟩
theorem snd_callK {k n : Nat} {a b : CE} (sa : Snd W δ g a) (sb : Snd W δ g b) : Snd W δ g (.callK k n a b) := snd_plain rfl rfl fun c ex q => by
  cases ex with
  | Call f args kws pos =>
    split at q
    · rename_i e; cases e
      simp only [Bool.and_eq_true] at q
      obtain ⟨⟨⟨⟨⟨⟨⟨⟨⟨⟨q1, q2⟩, q3⟩, q4⟩, q5⟩, q6⟩, q7⟩, q8⟩, q9⟩, q10⟩, q11⟩ := q
      obtain ⟨m, sp, f, fd, ps, lv, e1, F⟩ := c.fns k _ (of_decide_eq_true q1) (atB_ok q2)
      unfold dFnK
      rw [e1]
      have hl := F.len
      subst hl
      have kb := F.kb n _ (of_decide_eq_true q8)
      obtain ⟨k1, k2, k3⟩ := kw_some (env := _) (pos := pos) q9
      cases args with
      | nil =>
        have hp : (den δ a).a = dNil := by cases a <;> first | rfl | (simp [chk] at q7; done)
        refine pe_imp (pe_callK0 (E := _) F.ok F.rm (c.gl q3) F.mg F.kp kb (passes_call c.tk fun _ _ _ _ h => h) (sb.k c kws q11) k1 k2 (okN_ok q4).1 (by rw [k3]; rfl)) fun σ H Q h => ?_
        have z := imp_callK σ H Q h
        rw [hp] at z
        obtain ⟨env, ω, F, M, Ec, Qc, j, ht, hx, k⟩ := z
        exact k _ _ _ _ _ _ ht j.hw (Ex.refl H F M) .nil
      | cons e es =>
        have q5' := q5
        simp only [allNS, Bool.and_eq_true] at q5'
        exact pe_imp (pe_callK (E := _) F.ok F.rm (c.gl q3) F.mg F.kp kb (passes_call c.tk fun _ _ _ _ h => h) (sa.a c _ q7) (sb.k c kws q11) k1 k2 (okN_ok q4).1 (star1 q5'.1) (by rw [starAll q5, k3]; rfl)) imp_callK
    · cases q
  | _ => cases q
theorem snd_rng1 {a : CE} (sa : Snd W δ g a) : Snd W δ g (.rng1 a) := by
  refine { e := ?e, b := ?b, w := ?w, a := ?a, i := ?i, o := ?o, y := ?y, k := ?k }
  case i =>
    intro sx C X c tg ex q
    simp only [chk] at q
    split at q
    · simp only [Bool.and_eq_true] at q
      obtain ⟨⟨⟨q1, q2⟩, q3⟩, q4⟩ := q
      have e := of_decide_eq_true q1
      subst e
      exact ⟨di_range1 (c.gl q2) (c.blt _ (by decide)) (da_cons (sa.e c _ q4) da_nil (star1 q3)) (by rw [star1 q3]; rfl), rfl⟩
    · cases q
  all_goals intros; simp_all [chk]
theorem snd_rng2 {a b : CE} (sa : Snd W δ g a) (sb : Snd W δ g b) : Snd W δ g (.rng2 a b) := by
  refine { e := ?e, b := ?b, w := ?w, a := ?a, i := ?i, o := ?o, y := ?y, k := ?k }
  case i =>
    intro sx C X c tg ex q
    simp only [chk] at q
    split at q
    · simp only [Bool.and_eq_true] at q
      obtain ⟨⟨⟨⟨⟨q1, q2⟩, q3⟩, q3'⟩, q4⟩, q5⟩ := q
      have e := of_decide_eq_true q1
      subst e
      exact ⟨di_range2 (c.gl q2) (c.blt _ (by decide)) (da_cons (sa.e c _ q4) (da_cons (sb.e c _ q5) da_nil (star1 q3')) (star1 q3)) (by rw [star1 q3, star1 q3']; rfl) (by rw [star1 q3']; rfl), rfl⟩
    · cases q
  all_goals intros; simp_all [chk]
theorem snd_zip {a b : CE} (sa : Snd W δ g a) (sb : Snd W δ g b) : Snd W δ g (.zip a b) := by
  refine { e := ?e, b := ?b, w := ?w, a := ?a, i := ?i, o := ?o, y := ?y, k := ?k }
  case i =>
    intro sx C X c tg ex q
    simp only [chk] at q
    split at q
    · simp only [Bool.and_eq_true] at q
      obtain ⟨⟨⟨⟨⟨q1, q2⟩, q3⟩, q3'⟩, q4⟩, q5⟩ := q
      have e := of_decide_eq_true q1
      subst e
      exact ⟨di_zip c.calm (c.gl q2) (c.blt _ (by decide)) (da_cons (sa.e c _ q4) (da_cons (sb.e c _ q5) da_nil (star1 q3')) (star1 q3)) (by rw [star1 q3, star1 q3']; rfl) (by rw [star1 q3']; rfl), rfl⟩
    · cases q
  all_goals intros; simp_all [chk]
theorem ownOf_slots (N : List Str) (p : Pat) : (ownOf N p).map (·.2) = p.slots := by
  unfold ownOf
  rw [List.map_map]
  exact List.map_id' _
theorem pts_yes {C : Cxx} {X : Cx} : PTs X [] (bOf W C (dYes (Ω := Ω))) := by
  obtain ⟨h⟩ := pts_nil (X := X)
  refine ⟨fun pins s σ H Q I hq => h pins s σ H Q I ?_⟩
  obtain ⟨env, ω, F, M, Ec, Qc, j, ht, hx, k⟩ := hq
  exact k _ _ _ _ _ ht j.hw (Ex.refl H F M)
theorem snd_comp {ow : Bool} {it : CE} {p : Pat} {t e : CE} (si : Snd W δ g it) (st : Snd W δ g t) (se : Snd W δ g e) : Snd W δ g (.comp ow it p t e) := snd_plain rfl rfl fun c ex q => by
  cases ex with
  | ListComp elt gs scope pos =>
    split at q
    · rename_i e; cases e
      simp only [Bool.and_eq_true] at q
      obtain ⟨⟨⟨⟨⟨q1, q2⟩, q3⟩, q4⟩, q5⟩, q6⟩ := q
      refine de_comp c.calm (by rw [c.hN]; exact c.nd) (si.i c _ _ q1).1 (by rw [c.hN, c.sc]; exact blkOk_by q4) (ownOf_slots _ p) (fun s H C0 cl fp => pat_pg (c.blk scope s H C0 cl fp) p _ q3) (fun s H C0 cl fp => ?_) (fun s H C0 cl fp => se.e (c.blk scope s H C0 cl fp) _ q6) (notSet_fold q2)
      split at q5
      · rw [st.y q5]; exact pts_yes
      · exact pts_one (st.b (c.blk scope s H C0 cl fp) _ q5)
      · cases q5
    · cases q
  | _ => cases q
/-- every core term -/
theorem sound : ∀ c : CE, Snd W δ g c
  | .var i => snd_var i
  | .con d => snd_con d
  | .glo k => snd_glo k
  | .tup a => snd_tup (sound a)
  | .lst _ a => snd_lst (sound a)
  | .bin _ a b => snd_bin (sound a) (sound b)
  | .un _ a => snd_un (sound a)
  | .chain _ _ a b c => snd_chain (sound a) (sound b) (sound c)
  | .isN _ a => snd_isN (sound a)
  | .and a b => snd_and (sound a) (sound b)
  | .or a b => snd_or (sound a) (sound b)
  | .not a => snd_not (sound a)
  | .ite t a b => snd_ite (sound t) (sound a) (sound b)
  | .sl a lo hi => snd_sl (sound a) (sound lo) (sound hi)
  | .no => snd_no
  | .blt _ a => snd_blt (sound a)
  | .isa _ a => snd_isa (sound a)
  | .call _ a => snd_call (sound a)
  | .callK _ _ a b => snd_callK (sound a) (sound b)
  | .comp _ it _ t e => snd_comp (sound it) (sound t) (sound e)
  | .yes => snd_yes
  | .nil => snd_nil
  | .cons a r => snd_cons (sound a) (sound r)
  | .rng1 a => snd_rng1 (sound a)
  | .rng2 a b => snd_rng2 (sound a) (sound b)
  | .zip a b => snd_zip (sound a) (sound b)
end
end Q
namespace Q
open PySem PySem.Spec PyProof.Rows L2

/-! ### statements of the core language -/
inductive Aug where | add | mul | xor
  deriving DecidableEq
inductive CS where
  | nil | cons (s r : CS) | frz (i : Nat) (r : CS)
  | drop (e : CE) | ret (e : CE) | ifS (t : CE) (a b : CS)
  | set (i : Nat) (e : CE) | par (i k : Nat) (a b : CE) | pat (p : Pat) (e : CE)
  | app (i : Nat) (e : CE) | ext (i : Nat) (e : CE) | aug (o : Aug) (i : Nat) (e : CE)
  | raise (c : Nat) | forS (it : CE) (p : Pat) (b : CS) | whileS (t : CE) (b : CS)
section
variable {Ω : Type}
def pAug : Aug → Int → Int → (Int → Prop) → Prop
  | .add, i, j, Q => Q (i + j)
  | .mul, i, j, Q => CMul i j ∧ Q (i * j)
  | .xor, i, j, Q => Q (Builtin.bitXor i j)
def sAug (o : Aug) (i : Nat) (t : TD Ω) : TDs Ω := fun E D env ω => match env[i]? with
  | some (.d (.int a)) => t E env ω fun d ω' => match d with
    | .d (.int b) => pAug o a b fun z => D.nx (env.set i (.d (.int z))) ω'
    | _ => False
  | _ => False
def denS (δ : Den Ω) : CS → TDs Ω
  | .nil => sNext
  | .cons s r => sSeq (denS δ s) (denS δ r)
  | .frz i r => sFrz i (denS δ r)
  | .drop e => sDrop (den δ e).e
  | .ret e => sRet (den δ e).e
  | .ifS t a b => sIf (den δ t).b (denS δ a) (denS δ b)
  | .set i e => sSet i (den δ e).e
  | .par i k a b => sPar1 i k (dCons (den δ a).e (dCons (den δ b).e dNil))
  | .pat p e => sPat p (den δ e).e
  | .app i e => sApp i (den δ e).e
  | .ext i e => sExt i (den δ e).e
  | .aug o i e => sAug o i (den δ e).e
  | .raise c => sRaise c
  | .forS it p b => sFor (den δ it).i p (denS δ b)
  | .whileS t b => sWhile (den δ t).b (denS δ b)
end
/-! the check -/
def notComp : Expr → Bool
  | .ListComp _ _ _ _ => false
  | .SetComp _ _ _ _ => false
  | .DictComp _ _ _ _ _ => false
  | _ => true
def isLocal (sx : Sx) (x : Str) : Bool := match sx.sc.names.lookup x with
  | some .local => true
  | _ => false
/-- the comprehension stores by itself -/
def swapsB (sx : Sx) (x : Str) (px lp : Pos) (scope : Scope) : Bool := isLocal sx x && (px.line == lp.line) && !(scope.names.any fun (n, k) => n == x && (k == .local || k == .cell))
def plainNames (sx : Sx) (line : Nat) (ts : List Expr) : List Str := ts.filterMap fun
  | .Name id pos => if sx.sc.names.lookup id == some .local && pos.line == line then some id else none
  | _ => none
/-- no swapped stores -/
def noSwap (sx : Sx) (tg v : Expr) : Bool := match tg, v with
  | .Tuple ts _ _, .Tuple vs _ _ => (plainNames sx ((ts.head?.map (·.pos.line)).getD 0) ts).length != ts.length
  | .Tuple _ _ _, _ => true
  | _, _ => false
structure Cks where
  s : Sx → Stmt → Bool
  l : Sx → List Stmt → Bool
@[reducible] def ckS (f : Sx → Stmt → Bool) : Cks := ⟨f, fun _ _ => false⟩
@[reducible] def ckL (f : Sx → List Stmt → Bool) : Cks := ⟨fun _ _ => false, f⟩
@[reducible] def Aug.op : Aug → Operator
  | .add => .Add | .mul => .Mult | .xor => .BitXor
def chkS (g : Glob) : CS → Cks
  | .nil => ckL fun _ l => match l with | [] => true | _ :: _ => false
  | .cons s r => ckL fun sx l => match l with | st :: l => (chkS g s).s sx st && (chkS g r).l sx l | [] => false
  | .frz _ r => ckL fun sx l => (chkS g r).l sx l
  | .drop e => ckS fun sx st => match st with
    | .Expr v _ => notComp v && (chk g e).e sx v
    | _ => false
  | .ret e => ckS fun sx st => match st with
    | .Return (some v) _ => (chk g e).e sx v
    | _ => false
  | .ifS t a b => ckS fun sx st => match st with
    | .If c x y _ => (chk g t).b sx c && (chkS g a).l sx x && (chkS g b).l sx y
    | _ => false
  | .set i e => ckS fun sx st => match st with
    | .Assign [.Name x px] v _ => atB sx.N i x && locB sx x && (chk g e).e sx v && (match v with
      | .ListComp _ _ scope lp => swapsB sx x px lp scope || !isLocal sx x
      | v => notComp v)
    | _ => false
  | .par i k a b => ckS fun sx st => match st with
    | .Assign [.Tuple [.Name x px, .Name y py] _ _] (.Tuple [u, v] _ _) _ => atB sx.N i x && atB sx.N k y && decide (i ≠ k) && isLocal sx x && isLocal sx y && (py.line == px.line) && decide (x ≠ y) && notStar u && notStar v && !([u, v].all (foldedForSure 8)) && !([u, v].all (constantsAlone 8)) && (chk g a).e sx u && (chk g b).e sx v
    | _ => false
  | .pat p e => ckS fun sx st => match st with
    | .Assign [tg] v _ => patB sx p tg && (chk g e).e sx v && notComp v && noSwap sx tg v
    | _ => false
  | .app i e => ckS fun sx st => match st with
    | .Expr (.Call (.Attribute (.Name x _) at' p2) [a] [] p3) _ => decide (at' = ("append" : Str)) && atB sx.N i x && visB sx x && okN x && notStar a && (p2.endLine == p3.line) && (chk g e).e sx a
    | _ => false
  | .ext i e => ckS fun sx st => match st with
    | .Expr (.Call (.Attribute (.Name x _) at' p2) [a] [] p3) _ => decide (at' = ("extend" : Str)) && atB sx.N i x && visB sx x && okN x && notStar a && (p2.endLine == p3.line) && (chk g e).e sx a
    | _ => false
  | .aug o i e => ckS fun sx st => match st with
    | .AugAssign (.Name x _) op v _ => decide (op = o.op) && atB sx.N i x && locB sx x && (chk g e).e sx v
    | _ => false
  | .raise c => ckS fun sx st => match st with
    | .Raise (some (.Call (.Name x _) [.Constant (.str _) _ _] [] _)) none _ => atB g.exs c x && glB sx x && okN x
    | _ => false
  | .forS it p b => ckS fun sx st => match st with
    | .For tg iter body [] _ => (chk g it).i sx tg iter && patB sx p tg && (chkS g b).l sx body
    | _ => false
  | .whileS t b => ckS fun sx st => match st with
    | .While c body [] _ => (chk g t).b sx c && (chkS g b).l sx body
    | _ => false
/-! the context of a def's body -/
structure ExcOk (K : PySem.W.Frag) (mg : Str → Option Value) (x : Str) (C : Addr) : Prop where
  g : mg x = some (.ref C)
  q : PySem.W.excIn K C [.type "ValueError", .type "Exception", .type "BaseException", .type "object"] "ValueError.__new__" = true
  k : PySem.W.keepIn K (.ref C) = true
  b : PySem.W.subIn K (.ref C) (.type "BaseException") = some true
  t : PySem.W.typeIn K (.ref C) = some (.type "type")
structure CtxS {Ω : Type} (W : Ω → Hp → Prop) (δ : Den Ω) (g : Glob) (sx : Sx) (C : Cxx) (X : Cx) : Prop extends Ctx W δ g sx C X where
  kd : sx.sc.kind = .function
  po : PassesOwn (model X.prog X.w) X.A X.env X.xe
  exs : ∀ (c : Nat) x, g.exs[c]? = some x → ∃ Ca, C.cx c = .ref Ca ∧ ExcOk X.K X.mg x Ca
section
variable {Ω : Type} {W : Ω → Hp → Prop} {δ : Den Ω} {g : Glob} {sx : Sx} {C : Cxx} {X : Cx}
theorem sw_no {v : Expr} {t : Option Expr} {l : Nat} {env : Env} (h : notComp v = true) : swapsWith v t l env = pure false := by
  cases v <;> first | rfl | (simp [notComp] at h)
theorem isLocal_ok {x : Str} (h : isLocal sx x = true) : sx.sc.names.lookup x = some .local := by
  unfold isLocal at h
  split at h
  · assumption
  · cases h
theorem not_isLocal {x : Str} (h : isLocal sx x = false) : sx.sc.names.lookup x ≠ some .local := fun e => by
  unfold isLocal at h
  rw [e] at h
  cases h
theorem sw_cell {elt : Expr} {gs : List Comprehension} {scope : Scope} {pos py : Pos} {y : Str} {l : Nat} {env : Env} (hy : env.scope.names.lookup y ≠ some .local) : swapsWith (.ListComp elt gs scope pos) (some (.Name y py)) l env = pure false := by
  have e : (env.kindOf y == some .local) = false := by
    show (env.scope.names.lookup y == some .local) = false
    exact beq_eq_false_iff_ne.mpr hy
  unfold swapsWith
  simp only [e, Bool.and_false, Bool.false_and]
theorem block_fn {env : Env} (hk : env.scope.kind = .function) : env.blockKind = .function := by unfold Env.blockKind; rw [hk]; rfl
theorem sw_par {x y : Str} {px py pt : Pos} {kt : Nat} {a b : Expr} {k2 : Nat} {pt2 : Pos} {env : Env} (hk : env.scope.kind = .function) (hx : env.scope.names.lookup x = some .local) (hy : env.scope.names.lookup y = some .local) (hl : (py.line == px.line) = true) (hn : x ≠ y) (ha : notStar a = true) (hb : notStar b = true)
    (hf : [a, b].all (foldedForSure 8) = false) (hc : [a, b].all (constantsAlone 8) = false) : swappedStores [.Tuple [.Name x px, .Name y py] kt pt] (.Tuple [a, b] k2 pt2) env = pure (some [x, y]) := by
  have k1 : env.kindOf x = some .local := hx
  have k2 : env.kindOf y = some .local := hy
  have hed : [x, y].eraseDups = [x, y] := by
    have : (y == x) = false := beq_eq_false_iff_ne.mpr (Ne.symm hn)
    simp [List.eraseDups, List.eraseDupsBy, List.eraseDupsBy.loop, this]
  unfold swappedStores
  simp only [block_fn hk, k1, k2, hf, hc, Expr.pos, List.length_cons, List.length_nil, List.head?_cons, Option.map_some, Option.getD_some, List.filterMap_cons, List.filterMap_nil, hl, beq_self_eq_true, Bool.and_self, if_true, hed]
  rw [if_neg (by decide)]
  rw [if_neg fun z => ?_]
  · rfl
  · obtain ⟨e, he, hz⟩ := List.any_eq_true.mp z
    have hs : notStar e = true := by
      rcases List.mem_cons.mp he with q | q
      · rw [q]; exact ha
      · rw [List.mem_singleton.mp q]; exact hb
    cases e <;> first | (cases hz; done) | (simp [notStar] at hs)
theorem sw_none {ts vs : List Expr} {k1 k2 : Nat} {p1 p2 : Pos} {env : Env} (h : ((ts.filterMap fun | .Name id pos => if env.kindOf id == some .local && pos.line == (ts.head?.map (·.pos.line)).getD 0 then some id else none | _ => none).length != ts.length) = true) : swappedStores [.Tuple ts k1 p1] (.Tuple vs k2 p2) env = pure none := by
  unfold swappedStores
  dsimp only
  split
  · rfl
  · split
    · rfl
    · exact if_pos (Bool.or_eq_true_iff.mpr (.inl h))
theorem noSwap_ok (c : Ctx W δ g sx C X) {tg v : Expr} (h : noSwap sx tg v = true) : swappedStores [tg] v X.env = pure none ∧ (assignEach [tg] X.env).map (·.2) = [assign tg X.env] := by
  cases tg with
  | Tuple ts k p =>
    refine ⟨?_, rfl⟩
    cases v with
    | Tuple vs k2 p2 =>
      simp only [noSwap, plainNames] at h
      refine sw_none ?_
      have e : ∀ id, X.env.kindOf id = sx.sc.names.lookup id := fun id => by show X.env.scope.names.lookup id = _; rw [c.sc]
      simp only [e]
      exact h
    | _ => rfl
  | _ => simp [noSwap] at h
end
end Q
namespace Q
open PySem PySem.Spec PyProof.Rows L2
section
variable {Ω : Type} {W : Ω → Hp → Prop} {δ : Den Ω} {g : Glob}
structure SndS (W : Ω → Hp → Prop) (δ : Den Ω) (g : Glob) (c : CS) : Prop where
  s : ∀ {sx C X}, CtxS W δ g sx C X → ∀ st, (chkS g c).s sx st = true → PS X st (sOf W C (denS δ c))
  l : ∀ {sx C X}, CtxS W δ g sx C X → ∀ l, (chkS g c).l sx l = true → PSs X l (sOf W C (denS δ c))
theorem ss_nil' : SndS W δ g .nil := ⟨fun _ _ q => notF q, fun c l q => by
  cases l with
  | nil => exact ss_nil
  | cons _ _ => cases q⟩
theorem ss_cons' {s r : CS} (hs : SndS W δ g s) (hr : SndS W δ g r) : SndS W δ g (.cons s r) := ⟨fun _ _ q => notF q, fun c l q => by
  cases l with
  | nil => cases q
  | cons st l =>
    simp only [chkS, Bool.and_eq_true] at q
    exact ss_cons (hs.s c st q.1) (hr.l c l q.2)⟩
theorem ss_frz' {i : Nat} {r : CS} (hr : SndS W δ g r) : SndS W δ g (.frz i r) := ⟨fun _ _ q => notF q, fun c l q => pss_imp (hr.l c l q) imp_frz⟩
theorem ss_drop' {e : CE} : SndS W δ g (.drop e) := ⟨fun c st q => by
  cases st with
  | Expr v pos =>
    simp only [chkS, Bool.and_eq_true] at q
    exact ss_drop ((sound e).e c.toCtx v q.2) (sw_no q.1)
  | _ => (cases q), fun _ _ q => notF q⟩
theorem ss_ret' {e : CE} : SndS W δ g (.ret e) := ⟨fun c st q => by
  cases st with
  | Return v pos =>
    cases v with
    | none => cases q
    | some v => exact ss_ret ((sound e).e c.toCtx v q)
  | _ => (cases q), fun _ _ q => notF q⟩
theorem ss_if' {t : CE} {a b : CS} (ha : SndS W δ g a) (hb : SndS W δ g b) : SndS W δ g (.ifS t a b) := ⟨fun c st q => by
  cases st with
  | If x y z pos =>
    simp only [chkS, Bool.and_eq_true] at q
    exact ss_if ((sound t).b c.toCtx x q.1.1) (ha.l c y q.1.2) (hb.l c z q.2)
  | _ => (cases q), fun _ _ q => notF q⟩
theorem ss_set' {i : Nat} {e : CE} : SndS W δ g (.set i e) := ⟨fun {sx C X} c st q => by
  cases st with
  | Assign ts v pos =>
    simp only [chkS] at q
    split at q
    · rename_i e0; cases e0
      rename_i x px
      simp only [Bool.and_eq_true] at q
      obtain ⟨⟨⟨q1, q2⟩, q3⟩, q4⟩ := q
      obtain ⟨l1, l2⟩ := locB_ok q2
      have hN : X.N.Nodup := by rw [c.hN]; exact c.nd
      have hi : X.N[i]? = some x := by rw [c.hN]; exact atB_ok q1
      have hx : Loc X.env.scope x := by rw [c.sc]; exact l1
      have hf : X.fn x = true ∨ X.env.scope.names.lookup x = some .local := by rw [c.fn, c.sc]; exact l2
      split at q4
      · rename_i elt gs scope lp
        by_cases hsw : swapsB sx x px lp scope = true
        · cases e with
          | comp ow it p t el =>
            simp only [chk] at q3
            split at q3
            · rename_i e0; cases e0
              simp only [Bool.and_eq_true] at q3
              obtain ⟨⟨⟨⟨⟨k1, k2⟩, k3⟩, k4⟩, k5⟩, k6⟩ := q3
              unfold swapsB at hsw
              simp only [Bool.and_eq_true, Bool.not_eq_true'] at hsw
              have hyl : X.env.scope.names.lookup x = some .local := by rw [c.sc]; exact isLocal_ok hsw.1.1
              refine ss_setLc (own := ownOf sx.N p) c.calm hN hi hyl (sw_true (by rw [c.sc]; exact c.kd) hyl hsw.1.2 hsw.2) ((sound it).i c.toCtx _ _ k1).1 (by rw [c.hN, c.sc]; exact blkOk_by k4) (ownOf_slots _ p) (fun s H C0 cl fp => pat_pg (c.blk scope s H C0 cl fp) p _ k3) (fun s H C0 cl fp => ?_) (fun s H C0 cl fp => (sound el).e (c.blk scope s H C0 cl fp) _ k6) (notSet_fold k2)
              split at k5
              · rw [(sound (W := W) (δ := δ) t).y k5]; exact pts_yes
              · exact pts_one ((sound t).b (c.blk scope s H C0 cl fp) _ k5)
              · cases k5
            · cases q3
          | _ => first | (simp [chk] at q3; done) | (simp only [chk] at q3; split at q3 <;> first | (cases q3; done) | (rename_i e0; cases e0; done))
        · have hnl : isLocal sx x = false := by
            rw [Bool.or_eq_true] at q4
            rcases q4 with z | z
            · exact absurd z hsw
            · simpa using z
          exact ss_set hN hi hx ((sound e).e c.toCtx _ q3) (sw_cell (by rw [c.sc]; exact not_isLocal hnl)) hf
      · exact ss_set hN hi hx ((sound e).e c.toCtx _ q3) (sw_no q4) hf
    · cases q
  | _ => (cases q), fun _ _ q => notF q⟩
theorem ss_par' {i k : Nat} {a b : CE} : SndS W δ g (.par i k a b) := ⟨fun {sx C X} c st q => by
  cases st with
  | Assign ts v pos =>
    simp only [chkS] at q
    split at q
    · rename_i e0; cases e0
      simp only [Bool.and_eq_true, Bool.not_eq_true'] at q
      obtain ⟨⟨⟨⟨⟨⟨⟨⟨⟨⟨⟨⟨q1, q2⟩, q3⟩, q4⟩, q5⟩, q6⟩, q7⟩, q8⟩, q9⟩, q10⟩, q11⟩, q12⟩, q13⟩ := q
      have hx := isLocal_ok q4
      have hy := isLocal_ok q5
      rw [← c.sc] at hx hy
      refine ss_par c.calm (by rw [c.hN]; exact c.nd) (by rw [c.hN]; exact atB_ok q1) (by rw [c.hN]; exact atB_ok q2) (of_decide_eq_true q3) hx hy (da_cons ((sound a).e c.toCtx _ q12) (da_cons ((sound b).e c.toCtx _ q13) da_nil (star1 q9)) (star1 q8)) (sw_par (by rw [c.sc]; exact c.kd) hx hy q6 (of_decide_eq_true q7) q8 q9 q10 q11) rfl
    · cases q
  | _ => (cases q), fun _ _ q => notF q⟩
theorem ss_pat' {p : Pat} {e : CE} : SndS W δ g (.pat p e) := ⟨fun {sx C X} c st q => by
  cases st with
  | Assign ts v pos =>
    simp only [chkS] at q
    split at q
    · rename_i e0; cases e0
      simp only [Bool.and_eq_true] at q
      obtain ⟨⟨⟨q1, q2⟩, q3⟩, q4⟩ := q
      obtain ⟨z1, z2⟩ := noSwap_ok c.toCtx q4
      exact ss_pat ((sound e).e c.toCtx _ q2) (pat_pg c.toCtx p _ q1) (sw_no q3) z1 z2
    · cases q
  | _ => (cases q), fun _ _ q => notF q⟩
theorem ss_app' {i : Nat} {e : CE} : SndS W δ g (.app i e) := ⟨fun {sx C X} c st q => by
  cases st with
  | Expr v pos =>
    simp only [chkS] at q
    split at q
    · rename_i e0; cases e0
      simp only [Bool.and_eq_true] at q
      obtain ⟨⟨⟨⟨⟨⟨q1, q2⟩, q3⟩, q4⟩, q5⟩, q6⟩, q7⟩ := q
      cases of_decide_eq_true q1
      exact ss_app (by rw [c.hN]; exact atB_ok q2) (by rw [c.sc]; exact visB_ok q3) (okN_ok q4).1 (okN_ok q4).2 ((sound e).e c.toCtx _ q7) (by rw [star1 q5]; rfl) q6
    · cases q
  | _ => (cases q), fun _ _ q => notF q⟩
theorem ss_ext' {i : Nat} {e : CE} : SndS W δ g (.ext i e) := ⟨fun {sx C X} c st q => by
  cases st with
  | Expr v pos =>
    simp only [chkS] at q
    split at q
    · rename_i e0; cases e0
      simp only [Bool.and_eq_true] at q
      obtain ⟨⟨⟨⟨⟨⟨q1, q2⟩, q3⟩, q4⟩, q5⟩, q6⟩, q7⟩ := q
      cases of_decide_eq_true q1
      exact ss_ext (by rw [c.hN]; exact atB_ok q2) (by rw [c.sc]; exact visB_ok q3) (okN_ok q4).1 (okN_ok q4).2 ((sound e).e c.toCtx _ q7) (by rw [star1 q5]; rfl) q6
    · cases q
  | _ => (cases q), fun _ _ q => notF q⟩
theorem ip_ok (o : Aug) (X : Cx) : ∃ r, PIp X o.op r ∧ ∀ i j H (Q : VK), (pAug o i j fun z => Q (.int z) H) → r (.int i) (.int j) H Q := by
  cases o with
  | add => exact ⟨_, iop_add, fun i j H Q h => ⟨i, j, rfl, rfl, h⟩⟩
  | mul => exact ⟨_, iop_mul, fun i j H Q h => ⟨i, j, rfl, rfl, h.1, h.2⟩⟩
  | xor => exact ⟨_, iop_xor, fun i j H Q h => ⟨i, j, rfl, rfl, h⟩⟩
theorem pAug_mono {o : Aug} {i j : Int} {P Q : Int → Prop} (h : pAug o i j P) (k : ∀ z, P z → Q z) : pAug o i j Q := by
  cases o with
  | add => exact k _ h
  | mul => exact ⟨h.1, k _ h.2⟩
  | xor => exact k _ h
theorem ss_aug' {o : Aug} {i : Nat} {e : CE} : SndS W δ g (.aug o i e) := ⟨fun {sx C X} c st q => by
  cases st with
  | AugAssign tg op v pos =>
    simp only [chkS] at q
    split at q
    · rename_i e0; cases e0
      simp only [Bool.and_eq_true] at q
      obtain ⟨⟨⟨q1, q2⟩, q3⟩, q4⟩ := q
      cases of_decide_eq_true q1
      obtain ⟨l1, l2⟩ := locB_ok q3
      obtain ⟨r, hr, hl⟩ := ip_ok o X
      refine ps_imp (ps_aug (by rw [c.hN]; exact c.nd) (by rw [c.hN]; exact atB_ok q2) (by rw [c.sc]; exact l1) ((sound e).e c.toCtx _ q4) hr (by rw [c.fn, c.sc]; exact l2)) fun D σ H h => ?_
      obtain ⟨en, env, ω, F, M, Ec, Dc, i0, ht, hx, kn, kb, kc, kr⟩ := h
      simp only [denS, sAug] at ht
      split at ht
      · rename_i a ea
        obtain ⟨ov, e1, v1, rfl, rp⟩ := i0.j.sl i _ ea
        cases rp_int rp
        refine ⟨_, e1, env, ω, F, M, Ec, _, i0.j, ht, hx.step i0.ex, fun d ω1 v H1 F1 M1 q1 hw1 ex1 r1 => ?_⟩
        split at q1
        · cases rp_int r1
          refine hl _ _ _ _ (pAug_mono q1 fun z hz => ?_)
          exact kn _ _ F1 M1 _ _ hz ((i0.step hw1 ex1).setS (H0 := H) (d := .d (.int z)) (.int z) fun h => by cases h)
        · exact q1.elim
      · exact ht.elim
    · cases q
  | _ => (cases q), fun _ _ q => notF q⟩
theorem ss_raise' {n : Nat} : SndS W δ g (.raise n) := ⟨fun {sx C X} c st q => by
  cases st with
  | Raise ex ca pos =>
    simp only [chkS] at q
    split at q
    · rename_i e0; cases e0
      simp only [Bool.and_eq_true] at q
      obtain ⟨⟨q1, q2⟩, q3⟩ := q
      obtain ⟨Ca, e1, eo⟩ := c.exs n _ (atB_ok q1)
      refine ps_imp (ps_raise c.calm c.tk (pmk_own PySem.F.excBase_ValueError eo.q eo.g eo.k (raises_own eo.b eo.t) (c.gl q2) (okN_ok q3).1)) fun D σ H h => ?_
      obtain ⟨en, env, ω, F, M, Ec, Dc, i0, ht, hx, kn, kb, kc, kr⟩ := h
      have z := hx n ω H F M ht i0.j.hw i0.ex
      rw [e1] at z
      exact z
    · cases q
  | _ => (cases q), fun _ _ q => notF q⟩
theorem ss_for' {it : CE} {p : Pat} {b : CS} (hb : SndS W δ g b) : SndS W δ g (.forS it p b) := ⟨fun {sx C X} c st q => by
  cases st with
  | For tg iter body orelse pos =>
    cases orelse with
    | nil =>
      simp only [chkS, Bool.and_eq_true] at q
      obtain ⟨z1, z2⟩ := (sound it).i c.toCtx _ _ q.1.1
      exact ss_for c.po c.calm z1 (pat_pg c.toCtx p _ q.1.2) (hb.l c body q.2) (notSet_fold z2)
    | cons _ _ => cases q
  | _ => (cases q), fun _ _ q => notF q⟩
theorem ss_while' {t : CE} {b : CS} (hb : SndS W δ g b) : SndS W δ g (.whileS t b) := ⟨fun {sx C X} c st q => by
  cases st with
  | While x body orelse pos =>
    cases orelse with
    | nil =>
      simp only [chkS, Bool.and_eq_true] at q
      exact ss_while c.po ((sound t).b c.toCtx x q.1) (hb.l c body q.2)
    | cons _ _ => cases q
  | _ => (cases q), fun _ _ q => notF q⟩
theorem soundS : ∀ c : CS, SndS W δ g c
  | .nil => ss_nil'
  | .cons s r => ss_cons' (soundS s) (soundS r)
  | .frz _ r => ss_frz' (soundS r)
  | .drop _ => ss_drop'
  | .ret _ => ss_ret'
  | .ifS _ a b => ss_if' (soundS a) (soundS b)
  | .set _ _ => ss_set'
  | .par _ _ _ _ => ss_par'
  | .pat _ _ => ss_pat'
  | .app _ _ => ss_app'
  | .ext _ _ => ss_ext'
  | .aug _ _ _ => ss_aug'
  | .raise _ => ss_raise'
  | .forS _ _ b => ss_for' (soundS b)
  | .whileS _ b => ss_while' (soundS b)
end
end Q
namespace Q
open PySem PySem.Spec PyProof.Rows L2
/-! ### defs -/
def startE (N : List Str) (ds : List D) : List S := ds.map D.s ++ List.replicate (N.length - ds.length) .no
/-- what the text says of its names, apart from its defs -/
structure Txt {Ω : Type} (δ : Den Ω) (g : Glob) (cx : Nat → Value) (K : PySem.W.Frag) (mg : Str → Option Value) : Prop where
  blt : ∀ x, x ∈ bltNames → mg x = none
  con : ∀ (k : Nat) x, g.cns[k]? = some x → ∃ i t, mg x = some (.int i t) ∧ δ.cns[k]? = some i
  exs : ∀ (c : Nat) x, g.exs[c]? = some x → ∃ Ca, cx c = .ref Ca ∧ ExcOk K mg x Ca
structure FnJ {Ω : Type} (W : Ω → Hp → Prop) (cx : Nat → Value) (g : Glob) (P : Program) (w : World) (K : PySem.W.Frag) (mg : Str → Option Value) (base : Heap) (lv k : Nat) (x : Str) (m : Nat) (sp : FSpec Ω) (f : Addr) (fd : FuncData) (ps : List Str) : Prop where
  len : ps.length = m
  at_ : mg x = some (.ref f)
  kp : PySem.W.keepIn K (.ref f) = true
  bd : L2.Binds K fd ps []
  kb : ∀ n ks, (k, n, ks) ∈ g.kws → KBinds K fd ps ks (gN n) (gN n)
  ok : FnOk P w K mg base (L2.CX P w) lv f fd ps (spOf W cx ps.length sp)
/-- the first n defs keep their promises -/
def Prev {Ω : Type} (W : Ω → Hp → Prop) (δ : Den Ω) (g : Glob) (cx : Nat → Value) (P : Program) (w : World) (K : PySem.W.Frag) (mg : Str → Option Value) (base : Heap) (n : Nat) : Prop :=
  ∀ (k : Nat) x, k < n → g.fns[k]? = some x → ∃ m sp f fd ps, δ.fns[k]? = some (m, sp) ∧ FnJ W cx g P w K mg base n k x m sp f fd ps
section
variable {Ω : Type} {W : Ω → Hp → Prop} {δ : Den Ω} {g : Glob} {cx : Nat → Value} {P : Program} {w : World} {K : PySem.W.Frag} {mg : Str → Option Value} {base : Heap}
theorem Prev.zero : Prev W δ g cx P w K mg base 0 := fun k x h => absurd h (Nat.not_lt_zero k)
theorem Prev.snoc {n : Nat} (h : Prev W δ g cx P w K mg base n) {x : Str} {m : Nat} {sp : FSpec Ω} {f : Addr} {fd : FuncData} {ps : List Str} (e : g.fns[n]? = some x) (e2 : δ.fns[n]? = some (m, sp)) (F : FnJ W cx g P w K mg base (n + 1) n x m sp f fd ps) : Prev W δ g cx P w K mg base (n + 1) := fun k y hk ey => by
  by_cases z : k = n
  · subst z
    rw [e] at ey; cases ey
    exact ⟨m, sp, f, fd, ps, e2, F⟩
  · obtain ⟨m, sp, f, fd, ps, a, b⟩ := h k y (by omega) ey
    exact ⟨m, sp, f, fd, ps, a, ⟨b.len, b.at_, b.kp, b.bd, b.kb, b.ok.mono (Nat.le_succ n)⟩⟩
@[reducible] def Glob.at (g : Glob) (n : Nat) : Glob := { g with nf := n }
theorem start_ok {N : List Str} {F M H : Hp} {ω : Ω} {vs : List V} {ds : List D} (hw : Hw W ω F M H) (r : RDs H F M H vs ds) (no : noOwn ds = true) : J W (startE N ds) ω F M (L2.start N vs) H := by
  have hl : vs.length = ds.length := Paired.length r
  have get : ∀ {vs : List V} {ds : List D} (i : Nat) (d : D), RDs H F M H vs ds → ds[i]? = some d → ∃ v, vs[i]? = some v ∧ RD H F M H v d := fun {vs ds} i d r e => by
    induction r generalizing i with
    | nil => simp at e
    | cons a b ih =>
      cases i with
      | zero => simp at e; subst e; exact ⟨_, rfl, a⟩
      | succ i => simpa using ih i (by simpa using e)
  have nown : ∀ {ds : List D} (i : Nat) (xs : List PyData), noOwn ds = true → ds[i]? = some (.own xs) → False := fun {ds} i xs h e => by
    induction ds generalizing i with
    | nil => simp at e
    | cons a b ih =>
      cases i with
      | zero => simp at e; subst e; simp [noOwn] at h
      | succ i =>
        cases a with
        | own _ => simp [noOwn] at h
        | _ => exact ih i (by simpa [noOwn] using h) (by simpa using e)
  have hown : ∀ (i : Nat) (xs : List PyData), (startE N ds)[i]? = some (.own xs) → False := fun i xs e => by
    unfold startE at e
    by_cases hi : i < ds.length
    · rw [List.getElem?_append_left (by simpa using hi), List.getElem?_map] at e
      cases q : ds[i]? with
      | none => rw [q] at e; cases e
      | some d =>
        rw [q] at e
        cases d with
        | own ys => exact nown i ys no q
        | _ => cases e
    · rw [List.getElem?_append_right (by simpa using hi), List.getElem?_replicate] at e
      split at e <;> cases e
  refine ⟨hw, fun i s e => ?_, fun i j xs ys p _ e _ _ _ => (hown i xs e).elim⟩
  unfold startE at e
  unfold L2.start
  by_cases hi : i < ds.length
  · rw [List.getElem?_append_left (by simpa using hi), List.getElem?_map] at e
    rw [List.getElem?_append_left (by simpa [hl] using hi), List.getElem?_map]
    cases q : ds[i]? with
    | none => rw [q] at e; cases e
    | some d =>
      rw [q] at e
      obtain ⟨v, e1, rv⟩ := get i d r q
      rw [e1]
      refine ⟨some v, rfl, ?_⟩
      cases d with
      | d x => cases e; exact ⟨v, rfl, rv⟩
      | r x => cases e; exact congrArg some rv
      | own ys => exact (nown i ys no q).elim
  · rw [List.getElem?_append_right (by simpa using hi), List.getElem?_replicate] at e
    rw [List.getElem?_append_right (by simpa [hl] using hi), List.getElem?_replicate]
    simp only [List.length_map] at e ⊢
    split at e
    · rename_i z
      cases e
      rw [hl, if_pos z]
      exact ⟨none, rfl, trivial⟩
    · cases e
theorem rds_self {H F M : Hp} : ∀ {ds : List D} {vs : List V}, RDs H F M H vs ds → noOwn ds = true
  | [], _, _ => rfl
  | .d x :: r, _, k => by cases k with | cons a b => simpa [noOwn] using rds_self b
  | .r x :: r, _, k => by cases k with | cons a b => simpa [noOwn] using rds_self b
  | .own _ :: _, _, k => by
    cases k with
    | cons a b =>
      obtain ⟨p, vs, _, h0, _, _, h1, _⟩ := a
      rw [h0] at h1; cases h1
/-- THE RULE: a def by its core text -/
theorem def_ok {n : Nat} {x : Str} {st : Stmt} {f : Addr} {fd : FuncData} {N ps : List Str} {c : CS} {sp : FSpec Ω} (T : Txt δ g cx K mg) (hP : Prev W δ g cx P w K mg base n) (Fn : FunD K x x (defArgs st) (defBody st) (defScope st) [] [] f fd) (S : FnScope N ps (defScope st))
    (hc : (chkS (g.at n) c).l ⟨N, defScope st, fun _ => true⟩ (defBody st) = true)
    (rd : ∀ ds ω Qc Ec, ds.length = ps.length → sp ds ω Qc Ec → denS δ c Ec ⟨fun _ ω' => Qc (.d .none) ω', Qc, fun _ _ => False, fun _ _ => False⟩ (startE N ds) ω) : FnOk P w K mg base (L2.CX P w) (n + 1) f fd ps (spOf W cx ps.length sp) := by
  refine Fn.ok S (fun vs H Q E h => ?_) fun cdv A outer s H vs Q E hr h => ?_
  · obtain ⟨F, M, ω, ds, Qc, Ec, hw, r, hl, _⟩ := h
    rw [← hl]; exact Paired.length r
  · obtain ⟨F, M, ω, ds, Qc, Ec, hw, r, hl, hsp, kq, ke⟩ := h
    have ctx : CtxS W δ (g.at n) ⟨N, defScope st, fun _ => true⟩ ⟨cx, E⟩ (cxOf (L2.CX P w) P w K mg base N x (defScope st) f cdv A outer s H E) := {
      hN := rfl
      nd := S.nd
      sc := rfl
      fn := rfl
      calm := rfl
      hu := hr.units
      tk := takes_of rfl rfl rfl rfl
      blt := T.blt
      con := T.con
      fns := fun k y hk ey => by
        obtain ⟨m, sp, f, fd, ps, e1, q⟩ := hP k y hk ey
        exact ⟨m, sp, f, fd, ps, n, e1, ⟨q.len, q.at_, q.kp, q.bd, q.kb, q.ok, hr⟩⟩
      kd := S.kind
      po := passes_of rfl
      exs := T.exs }
    refine ⟨_, (soundS c).l ctx (defBody st) hc, ?_⟩
    have j := start_ok (N := N) hw r (rds_self r)
    refine ⟨⟨H, F, M⟩, startE N ds, ω, F, M, Ec, _, ⟨j, Ex.refl _ _ _, fun i xs p e1 e2 => ?_⟩, rd ds ω Qc Ec hl hsp, ke, fun env' ω' F' M' σ' H' q i => ?_, fun _ _ _ _ _ _ q _ => q.elim, fun _ _ _ _ _ _ q _ => q.elim, fun d ω' F' M' v H' q hw' ex r => kq d ω' v H' F' M' q hw' ex r⟩
    · obtain ⟨ov, e3, q⟩ := j.sl i _ e1
      rw [e2] at e3; cases e3
      obtain ⟨p', vs', e4, f1, m1, h1, _⟩ := q
      cases e4
      exfalso
      have := rds_self r
      unfold startE at e1
      by_cases hi : i < ds.length
      · rw [List.getElem?_append_left (by simpa using hi), List.getElem?_map] at e1
        cases q : ds[i]? with
        | none => rw [q] at e1; cases e1
        | some d =>
          rw [q] at e1
          cases d with
          | own ys =>
            clear j hc
            have : ∀ {ds : List D} (i : Nat), noOwn ds = true → ds[i]? = some (.own ys) → False := fun {ds} i h e => by
              induction ds generalizing i with
              | nil => simp at e
              | cons a b ih =>
                cases i with
                | zero => simp at e; subst e; simp [noOwn] at h
                | succ i =>
                  cases a with
                  | own _ => simp [noOwn] at h
                  | _ => exact ih i (by simpa [noOwn] using h) (by simpa using e)
            exact this i (rds_self r) q
          | _ => cases e1
      · rw [List.getElem?_append_right (by simpa using hi), List.getElem?_replicate] at e1
        split at e1 <;> cases e1
    · exact kq _ ω' _ H' F' M' q i.j.hw i.ex .non
end
end Q
namespace Q
open PySem PySem.Spec PyProof.Rows L2
/-! ### the law's town: where its draws are counted -/
theorem pig : ∀ (n : Nat) (l : List Int), l.Nodup → (∀ x ∈ l, 0 ≤ x ∧ x < n) → l.length ≤ n
  | 0, l, _, h => by
    cases l with
    | nil => exact Nat.le_refl _
    | cons x r => have := h x List.mem_cons_self; omega
  | n + 1, l, nd, h => by
    by_cases m : (n : Int) ∈ l
    · have e := List.length_erase_of_mem m
      have p : 0 < l.length := List.length_pos_of_mem m
      have q := pig n (l.erase (n : Int)) (nd.erase _) fun x hx => by
        obtain ⟨h1, h2⟩ := (List.Nodup.mem_erase_iff nd).mp hx
        have := h x h2
        omega
      omega
    · have q := pig n l nd fun x hx => by
        have := h x hx
        have : x ≠ (n : Int) := fun z => m (z ▸ hx)
        omega
      omega
def RestOk (kvs : List (Key × V)) : Prop := (kvs.map (·.1)).Nodup ∧ ∀ kv ∈ kvs, ∃ k i, kv = (Sum.inl k, V.int i) ∧ 0 ≤ k ∧ k < 63
theorem RestOk.len {kvs : List (Key × V)} (h : RestOk kvs) : kvs.length ≤ 63 := by
  have hm : ∃ l : List Int, kvs.map (·.1) = l.map Sum.inl ∧ ∀ x ∈ l, 0 ≤ x ∧ x < 63 := by
    have h2 := h.2
    clear h
    induction kvs with
    | nil => exact ⟨[], rfl, by simp⟩
    | cons p r ih =>
      obtain ⟨l, e, q⟩ := ih fun kv hk => h2 kv (List.mem_cons_of_mem _ hk)
      obtain ⟨k, i, rfl, a, b⟩ := h2 p List.mem_cons_self
      exact ⟨k :: l, by simp [e], fun x hx => (List.mem_cons.mp hx).elim (fun z => by rw [z]; exact ⟨a, b⟩) (q x)⟩
  obtain ⟨l, e, q⟩ := hm
  have nd := h.1
  rw [e] at nd
  have nd2 : l.Nodup := by
    have hh := List.pairwise_map.mp nd
    refine List.Pairwise.imp ?_ hh
    intro a b z y
    exact z (by rw [y])
  have := pig 63 l nd2 q
  have e2 := congrArg List.length e
  simp only [List.length_map] at e2
  omega
theorem RestOk.put {kvs : List (Key × V)} {k i : Int} (h : RestOk kvs) (a : 0 ≤ k) (b : k < 63) : RestOk (putK kvs (Sum.inl k) (.int i)) := by
  cases e : valV kvs (Sum.inl k : Key) with
  | none =>
    refine ⟨nd_putK _ h.1 e, fun kv hk => ?_⟩
    rw [putK_new _ e] at hk
    rcases List.mem_append.mp hk with z | z
    · exact h.2 kv z
    · rw [List.mem_singleton.mp z]; exact ⟨k, i, rfl, a, b⟩
  | some v =>
    have q : (kvs.any fun kv => decide (kv.1 = (Sum.inl k : Key))) = true := by rw [valV_any, e]; rfl
    unfold putK
    rw [if_pos q]
    refine ⟨?_, fun kv hk => ?_⟩
    · have z : (kvs.map fun kv => if kv.1 = (Sum.inl k : Key) then (kv.1, V.int i) else kv).map (·.1) = kvs.map (·.1) := by
        rw [List.map_map]
        refine List.map_congr_left fun p _ => ?_
        simp only [Function.comp]
        split <;> rfl
      rw [z]; exact h.1
    · obtain ⟨p, hp, rfl⟩ := List.mem_map.mp hk
      obtain ⟨k', i', rfl, a', b'⟩ := h.2 p hp
      by_cases z : (Sum.inl k' : Key) = Sum.inl k
      · rw [if_pos z]; exact ⟨k', i, rfl, a', b'⟩
      · rw [if_neg z]; exact ⟨k', i', rfl, a', b'⟩
theorem RestOk.val {kvs : List (Key × V)} {k : Int} {v : V} (h : RestOk kvs) (e : valV kvs (Sum.inl k : Key) = some v) : ∃ i, v = .int i := by
  unfold valV at e
  rw [Option.map_eq_some_iff] at e
  obtain ⟨p, hp, rfl⟩ := e
  obtain ⟨k', i', rfl, _⟩ := h.2 p (List.mem_of_find?_eq_some hp)
  exact ⟨i', rfl⟩
def townD (c : Int) (r : Addr) : HO := .dK [(Sum.inr ("count" : Str), .int c), (Sum.inr ("rests" : Str), .ref r)]
def Town (M : Hp) (t : Addr) : Prop := ∃ (r : Addr) (c : Int) (kvs : List (Key × V)), M t = some (townD c r) ∧ M r = some (.dK kvs) ∧ r ≠ t ∧ RestOk kvs
/-- the world of a law: the script at sa, the town -/
def Wd (K : PySem.W.Frag) (sa : Addr) (ns : List Int) : Option Addr → Hp → Prop
  | none, M => SqL K M sa (ns.map V.int)
  | some t, M => SqL K M sa (ns.map V.int) ∧ Town M t
def spDraw (sa : Addr) : FSpec (Option Addr) := fun ds ω Q _ => ∃ t many, ds = [.r (.ref sa), .r (.ref t), .d (.int many)] ∧ ω = some t ∧ 0 < many ∧ many ≤ 1000000 ∧ ∀ r, 0 ≤ r → r < many → Q (.d (.int r)) ω
def spBegun : FSpec (Option Addr) := fun ds ω Q _ => ds = [] ∧ ω = none ∧ ∀ t, Q (.r (.ref t)) (some t)
theorem sqL_upd {K : PySem.W.Frag} {M : Hp} {sa a : Addr} {xs : List V} {o : HO} {kvs : List (Key × V)} (h : SqL K M sa xs) (e : M a = some (.dK kvs)) : SqL K (upd M a o) sa xs := by
  rcases h with (h | ⟨u, h⟩) | h
  · exact .inl (.inl (by rw [upd_ne (fun z => by rw [z, e] at h; cases h)]; exact h))
  · exact .inl (.inr ⟨u, by rw [upd_ne (fun z => by rw [z, e] at h; cases h)]; exact h⟩)
  · exact .inr h
theorem sqL_mono {K : PySem.W.Frag} {F F' : Hp} {a : Addr} {xs : List V} (s : ∀ a o, F a = some o → F' a = some o) (h : SqL K F a xs) : SqL K F' a xs := by
  rcases h with (h | ⟨o, h⟩) | h
  · exact .inl (.inl (s _ _ h))
  · exact .inl (.inr ⟨o, s _ _ h⟩)
  · exact .inr h
theorem town_put (c d : Int) (r : Addr) : putK [((Sum.inr ("count" : Str) : Key), V.int c), (Sum.inr ("rests" : Str), V.ref r)] (Sum.inr ("count" : Str)) (V.int d) = [(Sum.inr ("count" : Str), V.int d), (Sum.inr ("rests" : Str), V.ref r)] := by rfl
/-- the world's part changes at a -/
theorem world_upd {H F M : Hp} {a : Addr} {o o' : HO} (fh : ∀ a o, F a = some o → H a = some o) (mh : ∀ a o, M a = some o → H a = some o) (fm : ∀ a o, F a = some o → M a = none) (e : M a = some o') :
    (∀ b u, F b = some u → upd H a o b = some u) ∧ (∀ b u, upd M a o b = some u → upd H a o b = some u) ∧ (∀ b u, F b = some u → upd M a o b = none) ∧ Ex H F M (upd H a o) F (upd M a o) := by
  have nF : ∀ b u, F b = some u → b ≠ a := fun b u q z => by rw [z] at q; rw [fm a u q] at e; cases e
  refine ⟨fun b u q => by rw [upd_ne (nF b u q)]; exact fh b u q, fun b u q => ?_, fun b u q => by rw [upd_ne (nF b u q)]; exact fm b u q, ⟨fun b u q m => ?_, fun _ _ q => q, fun _ _ q => .inl q, fun b u q => ?_, fun b q => ?_⟩⟩
  · by_cases z : b = a
    · rw [z] at q ⊢; rw [upd_same] at q ⊢; exact q
    · rw [upd_ne z] at q ⊢; exact mh b u q
  · rw [upd_ne (fun z => by rw [z] at m; rw [m] at e; cases e)]; exact q
  · by_cases z : b = a
    · rw [z, e]; simp
    · rw [upd_ne z] at q; rw [q]; simp
  · by_cases z : b = a
    · rw [z, upd_same] at q; cases q
    · rw [upd_ne z] at q; exact q
theorem upd_eq {H : Hp} {a b : Addr} {o : HO} {u : Option HO} (h : upd H a o b = u) : (b = a ∧ u = some o) ∨ (b ≠ a ∧ H b = u) := by
  by_cases z : b = a
  · rw [z, upd_same] at h; exact .inl ⟨z, h.symm⟩
  · rw [upd_ne z] at h; exact .inr ⟨z, h⟩
/-- a town is begun -/
theorem begun_new {K : PySem.W.Frag} {sa p r : Addr} {ns : List Int} {F M H : Hp} (hw : Hw (Wd K sa ns) none F M H) (np : H p = none) (nr : upd H p (HO.dK []) r = none) :
    Hw (Wd K sa ns) (some p) F (upd (upd M r (.dK [])) p (townD 0 r)) (upd (upd (upd H p (.dK [])) r (.dK [])) p (townD 0 r)) ∧ Ex H F M (upd (upd (upd H p (.dK [])) r (.dK [])) p (townD 0 r)) F (upd (upd M r (.dK [])) p (townD 0 r)) := by
  have rp : r ≠ p := fun z => by rw [z, upd_same] at nr; cases nr
  have nr' : H r = none := by rwa [upd_ne rp] at nr
  have Fp : F p = none := by
    cases e : F p with
    | none => rfl
    | some o => rw [hw.fh _ _ e] at np; cases np
  have Fr : F r = none := by
    cases e : F r with
    | none => rfl
    | some o => rw [hw.fh _ _ e] at nr'; cases nr'
  have Mp : M p = none := by
    cases e : M p with
    | none => rfl
    | some o => rw [hw.mh _ _ e] at np; cases np
  have Mr : M r = none := by
    cases e : M r with
    | none => rfl
    | some o => rw [hw.mh _ _ e] at nr'; cases nr'
  have mm : ∀ a o, M a = some o → upd (upd M r (.dK [])) p (townD 0 r) a = some o := fun a o h => by
    rw [upd_ne (fun z => by rw [z, Mp] at h; cases h), upd_ne (fun z => by rw [z, Mr] at h; cases h)]; exact h
  have hh : ∀ a o, H a = some o → upd (upd (upd H p (.dK [])) r (.dK [])) p (townD 0 r) a = some o := fun a o h => by
    rw [upd_ne (fun z => by rw [z, np] at h; cases h), upd_ne (fun z => by rw [z, nr'] at h; cases h), upd_ne (fun z => by rw [z, np] at h; cases h)]; exact h
  refine ⟨⟨fun a o h => hh a o (hw.fh a o h), fun a o h => ?_, fun a o h => ?_, sqL_mono mm hw.w, r, 0, [], upd_same, ?_, rp, ⟨List.nodup_nil, fun kv h => by cases h⟩⟩, ⟨fun a o h _ => hh a o h, fun _ _ h => h, fun _ _ h => .inl h, fun a o h => ?_, fun a h => ?_⟩⟩
  · rcases upd_eq h with ⟨rfl, e⟩ | ⟨z, e⟩
    · exact upd_same.trans e.symm
    · rcases upd_eq e with ⟨rfl, e⟩ | ⟨z2, e⟩
      · rw [upd_ne z, upd_same]; exact (by assumption : some o = some (HO.dK [])).symm
      · rw [upd_ne z, upd_ne z2, upd_ne z]; exact hw.mh _ _ e
  · have a1 : a ≠ p := fun z => by rw [z, Fp] at h; cases h
    have a2 : a ≠ r := fun z => by rw [z, Fr] at h; cases h
    rw [upd_ne a1, upd_ne a2]; exact hw.fm _ _ h
  · rw [upd_ne rp, upd_same]
  · rcases upd_eq h with ⟨rfl, e⟩ | ⟨z, e⟩
    · exact .inr np
    · rcases upd_eq e with ⟨rfl, e⟩ | ⟨z2, e⟩
      · exact .inr nr'
      · exact .inl (by rw [e]; simp)
  · cases e : H a with
    | none => rfl
    | some o => rw [hh a o e] at h; cases h
end Q
namespace Q
open PySem PySem.Spec PyProof.Rows L2
/-! ### how a reading is unrolled -/
section
variable {Ω : Type} {δ : Den Ω} {E : XD Ω} {env : List S} {ω : Ω} {Q : QD Ω} {Dc : DEnds Ω}
def boolK (x : D) (p q : Prop) : Prop := match x with
  | .d (.bool true) => p
  | .d (.bool false) => q
  | _ => False
@[simp] theorem boolK_b (b : Bool) (p q : Prop) : boolK (.d (.bool b)) p q ↔ if b = true then p else q := by cases b <;> simp [boolK]
def ifK (b : Bool) (p q : Prop) : Prop := match b with
  | true => p
  | false => q
@[simp] theorem ifK_b (b : Bool) (p q : Prop) : ifK b p q ↔ if b = true then p else q := by cases b <;> simp [ifK]
def slotK (s : Option S) (Q : D → Prop) : Prop := match s with
  | some (.d x) => Q (.d x)
  | some (.r v) => Q (.r v)
  | _ => False
@[simp] theorem slotK_d (x : PyData) (Q : D → Prop) : slotK (some (.d x)) Q = Q (.d x) := rfl
@[simp] theorem slotK_r (x : V) (Q : D → Prop) : slotK (some (.r x)) Q = Q (.r x) := rfl
@[simp] theorem dVar_k (i : Nat) : dVar i E env ω Q = slotK env[i]? fun d => Q d ω := by
  unfold dVar slotK
  cases env[i]? with
  | none => rfl
  | some s => cases s <;> rfl
@[simp] theorem dCon_k (x : PyData) : dCon x E env ω Q = Q (.d x) ω := rfl
@[simp] theorem dBin_k (o : Op2) (a b : TD Ω) : dBin o a b E env ω Q = a E env ω fun x ω1 => b E env ω1 fun y ω2 => p2 o x y fun d => Q d ω2 := rfl
@[simp] theorem dUn_k (o : Op1) (a : TD Ω) : dUn o a E env ω Q = a E env ω fun x ω1 => p1 o x fun d => Q d ω1 := rfl
@[simp] theorem dChain_k (o o' : Op2) (a b c : TD Ω) : dChain o o' a b c E env ω Q = a E env ω fun x ω1 => b E env ω1 fun y ω2 => p2 o x y fun d => boolK d (c E env ω2 fun z ω3 => p2 o' y z fun d => Q d ω3) (Q (.d (.bool false)) ω2) := rfl
def nonK (x : D) (neg : Bool) (Q : D → Prop) : Prop := match x with
  | .d .none => Q (.d (.bool (!neg)))
  | .d _ => Q (.d (.bool neg))
  | _ => False
def isNo : PyData → Bool
  | .none => true
  | _ => false
@[simp] theorem nonK_d (x : PyData) (neg : Bool) (Q : D → Prop) : nonK (.d x) neg Q = Q (.d (.bool (if isNo x = true then !neg else neg))) := by cases x <;> rfl
@[simp] theorem dIsN_k (neg : Bool) (a : TD Ω) : dIsN neg a E env ω Q = a E env ω fun x ω1 => nonK x neg fun d => Q d ω1 := rfl
@[simp] theorem dNil_k (Q : List D → Ω → Prop) : dNil E env ω Q = Q [] ω := rfl
@[simp] theorem dCons_k (a : TD Ω) (r : TDa Ω) (Q : List D → Ω → Prop) : dCons a r E env ω Q = a E env ω fun x ω1 => r E env ω1 fun xs ω2 => Q (x :: xs) ω2 := rfl
def datsK (ds : List D) (Q : List PyData → Prop) : Prop := match dats ds with
  | some xs => xs.length ≤ 1000000 ∧ Q xs
  | none => False
@[simp] theorem dTup_k (a : TDa Ω) : dTup a E env ω Q = a E env ω fun ds ω1 => datsK ds fun xs => Q (.d (.tuple xs)) ω1 := rfl
@[simp] theorem dLst_k (own : Bool) (a : TDa Ω) : dLst own a E env ω Q = a E env ω fun ds ω1 => datsK ds fun xs => Q (if own = true then .own xs else .d (.list xs)) ω1 := rfl
@[simp] theorem datsK_0 (Q : List PyData → Prop) : datsK [] Q ↔ Q [] := by simp [datsK, dats]
@[simp] theorem datsK_1 (a : PyData) (Q : List PyData → Prop) : datsK [.d a] Q ↔ Q [a] := by simp [datsK, dats]
@[simp] theorem datsK_2 (a b : PyData) (Q : List PyData → Prop) : datsK [.d a, .d b] Q ↔ Q [a, b] := by simp [datsK, dats]
@[simp] theorem datsK_3 (a b c : PyData) (Q : List PyData → Prop) : datsK [.d a, .d b, .d c] Q ↔ Q [a, b, c] := by simp [datsK, dats]
@[simp] theorem datsK_4 (a b c d : PyData) (Q : List PyData → Prop) : datsK [.d a, .d b, .d c, .d d] Q ↔ Q [a, b, c, d] := by simp [datsK, dats]
@[simp] theorem datsK_5 (a b c d e : PyData) (Q : List PyData → Prop) : datsK [.d a, .d b, .d c, .d d, .d e] Q ↔ Q [a, b, c, d, e] := by simp [datsK, dats]
@[simp] theorem datsK_6 (a b c d e f : PyData) (Q : List PyData → Prop) : datsK [.d a, .d b, .d c, .d d, .d e, .d f] Q ↔ Q [a, b, c, d, e, f] := by simp [datsK, dats]
@[simp] theorem datsK_7 (a b c d e f g : PyData) (Q : List PyData → Prop) : datsK [.d a, .d b, .d c, .d d, .d e, .d f, .d g] Q ↔ Q [a, b, c, d, e, f, g] := by simp [datsK, dats]
@[simp] theorem dBlt_k (b : Blt) (a : TDa Ω) : dBlt b a E env ω Q = a E env ω fun ds ω1 => pB b ds fun d => Q d ω1 := rfl
def isaK (T : Ty) (x : D) (Q : D → Prop) : Prop := match x with
  | .d y => Q (.d (.bool (isaT T y)))
  | _ => False
@[simp] theorem isaK_d (T : Ty) (x : PyData) (Q : D → Prop) : isaK T (.d x) Q = Q (.d (.bool (isaT T x))) := rfl
@[simp] theorem dIsa_k (T : Ty) (a : TD Ω) : dIsa T a E env ω Q = a E env ω fun x ω1 => isaK T x fun d => Q d ω1 := rfl
@[simp] theorem dAndV_k (a b : TD Ω) : dAndV a b E env ω Q = a E env ω fun x ω1 => boolK x (b E env ω1 Q) (Q (.d (.bool false)) ω1) := rfl
@[simp] theorem dOrV_k (a b : TD Ω) : dOrV a b E env ω Q = a E env ω fun x ω1 => boolK x (Q (.d (.bool true)) ω1) (b E env ω1 Q) := rfl
def notK (x : D) (Q : D → Prop) : Prop := match x with
  | .d (.bool c) => Q (.d (.bool (!c)))
  | _ => False
@[simp] theorem notK_d (x : Bool) (Q : D → Prop) : notK (.d (.bool x)) Q = Q (.d (.bool (!x))) := rfl
@[simp] theorem dNotV_k (a : TD Ω) : dNotV a E env ω Q = a E env ω fun x ω1 => notK x fun d => Q d ω1 := rfl
@[simp] theorem dTru_k (a : TD Ω) (Q : Bool → Ω → Prop) : dTru a E env ω Q = a E env ω fun x ω1 => pTru x fun b => Q b ω1 := rfl
@[simp] theorem dAnd_k (a b : TDb Ω) (Q : Bool → Ω → Prop) : dAnd a b E env ω Q = a E env ω fun c ω1 => ifK c (b E env ω1 Q) (Q false ω1) := rfl
@[simp] theorem dOr_k (a b : TDb Ω) (Q : Bool → Ω → Prop) : dOr a b E env ω Q = a E env ω fun c ω1 => ifK c (Q true ω1) (b E env ω1 Q) := rfl
@[simp] theorem dNot_k (a : TDb Ω) (Q : Bool → Ω → Prop) : dNot a E env ω Q = a E env ω fun c ω1 => Q (!c) ω1 := rfl
@[simp] theorem dIf_k (t : TDb Ω) (a b : TD Ω) : dIf t a b E env ω Q = t E env ω fun c ω1 => ifK c (a E env ω1 Q) (b E env ω1 Q) := rfl
@[simp] theorem dNo_k (Q : Option Int → Ω → Prop) : dNo E env ω Q = Q none ω := rfl
def intK (x : D) (Q : Int → Prop) : Prop := match x with
  | .d (.int i) => Q i
  | _ => False
@[simp] theorem intK_d (x : Int) (Q : Int → Prop) : intK (.d (.int x)) Q = Q x := rfl
@[simp] theorem dSome_k (a : TD Ω) (Q : Option Int → Ω → Prop) : dSome a E env ω Q = a E env ω fun x ω1 => intK x fun i => Q (some i) ω1 := rfl
@[simp] theorem dSl_k (a : TD Ω) (lo hi : TDo Ω) : dSl a lo hi E env ω Q = a E env ω fun x ω1 => lo E env ω1 fun l ω2 => hi E env ω2 fun u ω3 => pSl x l u fun d => Q d ω3 := rfl
def seqK (x : D) (Q : List PyData → Prop) : Prop := match x with
  | .d (.list xs) => Q xs
  | .d (.tuple xs) => Q xs
  | _ => False
@[simp] theorem seqK_l (x : List PyData) (Q : List PyData → Prop) : seqK (.d (.list x)) Q = Q x := rfl
@[simp] theorem seqK_t (x : List PyData) (Q : List PyData → Prop) : seqK (.d (.tuple x)) Q = Q x := rfl
@[simp] theorem dSeqI_k (t : TD Ω) (Q : List PyData → Ω → Prop) : dSeqI t E env ω Q = t E env ω fun x ω1 => seqK x fun xs => Q xs ω1 := rfl
def rngK (ds : List D) (Q : List PyData → Prop) : Prop := match ds with
  | [.d (.int n)] => (n ≤ 1000000 ∧ -1000000 ≤ n) ∧ Q (rngD 0 n.toNat)
  | _ => False
@[simp] theorem rngK_d (n : Int) (Q : List PyData → Prop) : rngK [.d (.int n)] Q = ((n ≤ 1000000 ∧ -1000000 ≤ n) ∧ Q (rngD 0 n.toNat)) := rfl
@[simp] theorem dRngA_k (ts : TDa Ω) (Q : List PyData → Ω → Prop) : dRngA ts E env ω Q = ts E env ω fun ds ω1 => rngK ds fun xs => Q xs ω1 := rfl
def rngK2 (ds : List D) (Q : List PyData → Prop) : Prop := match ds with
  | [.d (.int m), .d (.int n)] => (n ≤ 1000000 ∧ -1000000 ≤ n ∧ m ≤ 1000000 ∧ 0 ≤ m) ∧ Q (rngD m (n - m).toNat)
  | _ => False
@[simp] theorem rngK2_d (m n : Int) (Q : List PyData → Prop) : rngK2 [.d (.int m), .d (.int n)] Q = ((n ≤ 1000000 ∧ -1000000 ≤ n ∧ m ≤ 1000000 ∧ 0 ≤ m) ∧ Q (rngD m (n - m).toNat)) := rfl
@[simp] theorem dRngB_k (ts : TDa Ω) (Q : List PyData → Ω → Prop) : dRngB ts E env ω Q = ts E env ω fun ds ω1 => rngK2 ds fun xs => Q xs ω1 := rfl
def zipK (ds : List D) (Q : List PyData → Prop) : Prop := match ds with
  | [.d (.list xs), .d (.list ys)] => Q (zipD xs ys)
  | [.d (.tuple xs), .d (.tuple ys)] => Q (zipD xs ys)
  | _ => False
@[simp] theorem zipK_l (xs ys : List PyData) (Q : List PyData → Prop) : zipK [.d (.list xs), .d (.list ys)] Q = Q (zipD xs ys) := rfl
@[simp] theorem zipK_t (xs ys : List PyData) (Q : List PyData → Prop) : zipK [.d (.tuple xs), .d (.tuple ys)] Q = Q (zipD xs ys) := rfl
@[simp] theorem dZip_k (ts : TDa Ω) (Q : List PyData → Ω → Prop) : dZip ts E env ω Q = ts E env ω fun ds ω1 => zipK ds fun xs => Q xs ω1 := rfl
@[simp] theorem dYes_k (Q : Bool → Ω → Prop) : dYes E env ω Q = Q true ω := rfl
@[simp] theorem dComp_k (own : Bool) (it : TDi Ω) (p : Pat) (t : TDb Ω) (e : TD Ω) : dComp own it p t e E env ω Q = it E env ω fun ds ω1 => compL p t e (wipeE env p.slots) ds [] ω1 fun zs ω2 => Q (if own = true then .own zs else .d (.list zs)) ω2 := rfl
@[simp] theorem noOwn_nil : noOwn [] = true := rfl
@[simp] theorem noOwn_d (x : PyData) (r : List D) : noOwn (.d x :: r) = noOwn r := rfl
@[simp] theorem noOwn_r (x : V) (r : List D) : noOwn (.r x :: r) = noOwn r := rfl
@[simp] theorem noOwn_o (x : List PyData) (r : List D) : noOwn (.own x :: r) = false := rfl
@[simp] theorem dCallN_k (n : Nat) (sp : FSpec Ω) (a : TDa Ω) : dCallN n sp a E env ω Q = a E env ω fun ds ω1 => noOwn ds = true ∧ ds.length = n ∧ sp ds ω1 Q E := rfl
@[simp] theorem dCallK_k (n m : Nat) (sp : FSpec Ω) (a b : TDa Ω) : dCallK n m sp a b E env ω Q = a E env ω fun ds ω1 => ds.length = n ∧ b E env ω1 fun es ω2 => noOwn (ds ++ es) = true ∧ (ds ++ es).length = m ∧ sp (ds ++ es) ω2 Q E := rfl
/-! statements -/
@[simp] theorem s_d (x : PyData) : D.s (.d x) = .d x := rfl
@[simp] theorem s_r (x : V) : D.s (.r x) = .r x := rfl
@[simp] theorem s_o (x : List PyData) : D.s (.own x) = .own x := rfl
@[simp] theorem sNext_k : sNext E Dc env ω = Dc.nx env ω := rfl
@[simp] theorem sSeq_k (t u : TDs Ω) : sSeq t u E Dc env ω = t E { Dc with nx := u E Dc } env ω := rfl
@[simp] theorem sDrop_k (t : TD Ω) : sDrop t E Dc env ω = t E env ω fun _ ω' => Dc.nx env ω' := rfl
@[simp] theorem sRet_k (t : TD Ω) : sRet t E Dc env ω = t E env ω fun d ω' => Dc.rt d ω' := rfl
@[simp] theorem sIf_k (t : TDb Ω) (a b : TDs Ω) : sIf t a b E Dc env ω = t E env ω fun c ω' => ifK c (a E Dc env ω') (b E Dc env ω') := rfl
@[simp] theorem sSet_k (i : Nat) (t : TD Ω) : sSet i t E Dc env ω = t E env ω fun d ω' => Dc.nx (env.set i d.s) ω' := rfl
def parK (ds : List D) (Q : D → D → Prop) : Prop := match ds with
  | [x, y] => (noOwn [x] || noOwn [y]) = true ∧ Q x y
  | _ => False
@[simp] theorem parK_2 (x y : D) (Q : D → D → Prop) : parK [x, y] Q = ((noOwn [x] || noOwn [y]) = true ∧ Q x y) := rfl
@[simp] theorem sPar1_k (i k : Nat) (t : TDa Ω) : sPar1 i k t E Dc env ω = t E env ω fun ds ω' => parK ds fun x y => Dc.nx ((env.set i x.s).set k y.s) ω' := rfl
def someK {α : Type} (o : Option α) (Q : α → Prop) : Prop := match o with
  | some x => Q x
  | none => False
@[simp] theorem someK_s {α : Type} (x : α) (Q : α → Prop) : someK (some x) Q = Q x := rfl
def datK (x : D) (Q : PyData → Prop) : Prop := match x with
  | .d y => Q y
  | _ => False
@[simp] theorem datK_d (x : PyData) (Q : PyData → Prop) : datK (.d x) Q = Q x := rfl
@[simp] theorem sPat_k (p : Pat) (t : TD Ω) : sPat p t E Dc env ω = t E env ω fun d ω' => datK d fun x => someK (bindP p x env) fun env' => Dc.nx env' ω' := by
  unfold sPat
  congr
  funext d ω'
  cases d with
  | d x => simp only [datK]; cases bindP p x env <;> rfl
  | _ => rfl
def ownK (x : Option S) (Q : List PyData → Prop) : Prop := match x with
  | some (.own y) => Q y
  | _ => False
@[simp] theorem ownK_d (x : List PyData) (Q : List PyData → Prop) : ownK (some (.own x)) Q = Q x := rfl
@[simp] theorem sFrz_k (i : Nat) (t : TDs Ω) : sFrz i t E Dc env ω = ownK env[i]? fun xs => t E Dc (env.set i (.d (.list xs))) ω := by
  unfold sFrz ownK
  cases env[i]? with
  | none => rfl
  | some s => cases s <;> rfl
@[simp] theorem sApp_k (i : Nat) (t : TD Ω) : sApp i t E Dc env ω = ownK env[i]? fun xs => t E env ω fun d ω' => datK d fun x => xs.length < 1000000 ∧ Dc.nx (env.set i (.own (xs ++ [x]))) ω' := by
  unfold sApp ownK
  cases env[i]? with
  | none => rfl
  | some s => cases s <;> rfl
def lstK (x : D) (Q : List PyData → Prop) : Prop := match x with
  | .d (.list y) => Q y
  | _ => False
@[simp] theorem lstK_d (x : List PyData) (Q : List PyData → Prop) : lstK (.d (.list x)) Q = Q x := rfl
@[simp] theorem sExt_k (i : Nat) (t : TD Ω) : sExt i t E Dc env ω = ownK env[i]? fun xs => t E env ω fun d ω' => lstK d fun ys => xs.length + ys.length ≤ 1000000 ∧ Dc.nx (env.set i (.own (xs ++ ys))) ω' := by
  unfold sExt ownK
  cases env[i]? with
  | none => rfl
  | some s => cases s <;> rfl
@[simp] theorem sRaise_k (c : Nat) : sRaise c E Dc env ω = E c ω := rfl
@[simp] theorem sFor_k (it : TDi Ω) (p : Pat) (b : TDs Ω) : sFor it p b E Dc env ω = it E env ω fun ds ω' => forL p b E Dc ds env ω' := rfl
def intS (x : Option S) (Q : Int → Prop) : Prop := match x with
  | some (.d (.int y)) => Q y
  | _ => False
@[simp] theorem intS_d (x : Int) (Q : Int → Prop) : intS (some (.d (.int x))) Q = Q x := rfl
@[simp] theorem sAug_k (o : Aug) (i : Nat) (t : TD Ω) : sAug o i t E Dc env ω = intS env[i]? fun a => t E env ω fun d ω' => intK d fun b => pAug o a b fun z => Dc.nx (env.set i (.d (.int z))) ω' := by
  unfold sAug intS
  cases env[i]? with
  | none => rfl
  | some s => cases s <;> rfl
@[simp] theorem forL_nil (p : Pat) (b : TDs Ω) : forL p b E Dc [] env ω = Dc.nx env ω := rfl
theorem forL_cons (p : Pat) (b : TDs Ω) (x : PyData) (xs : List PyData) : forL p b E Dc (x :: xs) env ω = someK (bindP p x env) fun env1 => b E { Dc with nx := fun env' ω' => forL p b E Dc xs env' ω', ct := fun env' ω' => forL p b E Dc xs env' ω', bk := Dc.nx } env1 ω := by
  rw [forL]
  cases bindP p x env <;> rfl
@[simp] theorem compL_nil (p : Pat) (t : TDb Ω) (e : TD Ω) (acc : List PyData) (Q : List PyData → Ω → Prop) : compL p t e env [] acc ω Q = Q acc ω := rfl
theorem compL_cons (p : Pat) (t : TDb Ω) (e : TD Ω) (x : PyData) (xs acc : List PyData) (Q : List PyData → Ω → Prop) : compL p t e env (x :: xs) acc ω Q = someK (bindP p x env) fun env1 => t (fun _ _ => False) env1 ω fun b ω1 => ifK b (e (fun _ _ => False) env1 ω1 fun y ω2 => datK y fun z => compL p t e env xs (acc ++ [z]) ω2 Q) (compL p t e env xs acc ω1 Q) := by
  rw [compL]
  cases bindP p x env <;> rfl
/-! operators -/
@[simp] theorem p2_addI (i j : Int) (Q : D → Prop) : p2 .add (.d (.int i)) (.d (.int j)) Q = Q (.d (.int (i + j))) := rfl
@[simp] theorem p2_addT (i j : List PyData) (Q : D → Prop) : p2 .add (.d (.tuple i)) (.d (.tuple j)) Q = (i.length + j.length ≤ 1000000 ∧ Q (.d (.tuple (i ++ j)))) := rfl
@[simp] theorem p2_addL (i j : List PyData) (Q : D → Prop) : p2 .add (.d (.list i)) (.d (.list j)) Q = (i.length + j.length ≤ 1000000 ∧ Q (.d (.list (i ++ j)))) := rfl
@[simp] theorem p2_addS (i j : Str) (Q : D → Prop) : p2 .add (.d (.str i)) (.d (.str j)) Q = (i.length + j.length ≤ 1000000 ∧ Q (.d (.str (i ++ j)))) := rfl
@[simp] theorem p2_addO (i j : List PyData) (Q : D → Prop) : p2 .addO (.d (.list i)) (.d (.list j)) Q = (i.length + j.length ≤ 1000000 ∧ Q (.own (i ++ j))) := rfl
@[simp] theorem p2_sub (i j : Int) (Q : D → Prop) : p2 .sub (.d (.int i)) (.d (.int j)) Q = Q (.d (.int (i - j))) := rfl
@[simp] theorem p2_mulI (i j : Int) (Q : D → Prop) : p2 .mul (.d (.int i)) (.d (.int j)) Q = (CMul i j ∧ Q (.d (.int (i * j)))) := rfl
@[simp] theorem p2_mulT (xs : List PyData) (k : Int) (Q : D → Prop) : p2 .mul (.d (.tuple xs)) (.d (.int k)) Q = (xs ≠ [] ∧ 2 ≤ k ∧ k ≤ 1000 ∧ xs.length ≤ 1000 ∧ Q (.d (.tuple (List.replicate k.toNat xs).flatten))) := rfl
@[simp] theorem p2_mulL (xs : List PyData) (k : Int) (Q : D → Prop) : p2 .mul (.d (.list xs)) (.d (.int k)) Q = (0 ≤ k ∧ k ≤ 1000 ∧ xs.length ≤ 1000 ∧ Q (.d (.list (List.replicate k.toNat xs).flatten))) := rfl
@[simp] theorem p2_mod (i j : Int) (Q : D → Prop) : p2 .mod (.d (.int i)) (.d (.int j)) Q = (0 < j ∧ Q (.d (.int (i % j)))) := rfl
@[simp] theorem p2_fdiv (i j : Int) (Q : D → Prop) : p2 .fdiv (.d (.int i)) (.d (.int j)) Q = ((0 < j ∧ j < 1073741824) ∧ Q (.d (.int (i / j)))) := rfl
@[simp] theorem p2_band (i j : Int) (Q : D → Prop) : p2 .band (.d (.int i)) (.d (.int j)) Q = Q (.d (.int (Builtin.bitAnd i j))) := rfl
@[simp] theorem p2_bxor (i j : Int) (Q : D → Prop) : p2 .bxor (.d (.int i)) (.d (.int j)) Q = Q (.d (.int (Builtin.bitXor i j))) := rfl
@[simp] theorem p2_eq (i j : PyData) (Q : D → Prop) : p2 .eq (.d i) (.d j) Q = (cEq i j ∧ Q (.d (.bool (PyData.eqv i j)))) := by simp [p2]
@[simp] theorem p2_ne (i j : PyData) (Q : D → Prop) : p2 .ne (.d i) (.d j) Q = (cEq i j ∧ Q (.d (.bool (!PyData.eqv i j)))) := by simp [p2]
@[simp] theorem p2_lt (i j : Int) (Q : D → Prop) : p2 .lt (.d (.int i)) (.d (.int j)) Q = Q (.d (.bool (decide (i < j)))) := rfl
@[simp] theorem p2_le (i j : Int) (Q : D → Prop) : p2 .le (.d (.int i)) (.d (.int j)) Q = Q (.d (.bool (decide (i ≤ j)))) := rfl
@[simp] theorem p2_gt (i j : Int) (Q : D → Prop) : p2 .gt (.d (.int i)) (.d (.int j)) Q = Q (.d (.bool (decide (j < i)))) := rfl
@[simp] theorem p2_ge (i j : Int) (Q : D → Prop) : p2 .ge (.d (.int i)) (.d (.int j)) Q = Q (.d (.bool (decide (j ≤ i)))) := rfl
theorem p2_ltD (i j : PyData) (Q : D → Prop) (h : (∀ a, i = .int a → ∀ b, j = .int b → False)) : p2 .lt (.d i) (.d j) Q = (cLt i j ∧ Q (.d (.bool (PySem.W.dataLt i j)))) := by
  cases i <;> cases j <;> first | rfl | exact (h _ rfl _ rfl).elim
@[simp] theorem p2_ltT (i j : List PyData) (Q : D → Prop) : p2 .lt (.d (.tuple i)) (.d (.tuple j)) Q = (cLt (.tuple i) (.tuple j) ∧ Q (.d (.bool (PySem.W.dataLt (.tuple i) (.tuple j))))) := rfl
@[simp] theorem p2_inL (i : PyData) (j : List PyData) (Q : D → Prop) : p2 .isin (.d i) (.d (.list j)) Q = (min (PyData.depthAll j) i.depth ≤ 60 ∧ Q (.d (.bool (memD i j)))) := by simp [p2]
@[simp] theorem p2_inT (i : PyData) (j : List PyData) (Q : D → Prop) : p2 .isin (.d i) (.d (.tuple j)) Q = (min (PyData.depthAll j) i.depth ≤ 60 ∧ Q (.d (.bool (memD i j)))) := by simp [p2]
@[simp] theorem p2_ninL (i : PyData) (j : List PyData) (Q : D → Prop) : p2 .notin (.d i) (.d (.list j)) Q = (min (PyData.depthAll j) i.depth ≤ 60 ∧ Q (.d (.bool (!memD i j)))) := by simp [p2]
@[simp] theorem p2_ninT (i : PyData) (j : List PyData) (Q : D → Prop) : p2 .notin (.d i) (.d (.tuple j)) Q = (min (PyData.depthAll j) i.depth ≤ 60 ∧ Q (.d (.bool (!memD i j)))) := by simp [p2]
@[simp] theorem p2_ixL (j : List PyData) (i : Int) (Q : D → Prop) : p2 .ix (.d (.list j)) (.d (.int i)) Q = ∃ x, atI j i = some x ∧ Q (.d x) := rfl
@[simp] theorem p2_ixT (j : List PyData) (i : Int) (Q : D → Prop) : p2 .ix (.d (.tuple j)) (.d (.int i)) Q = ∃ x, atI j i = some x ∧ Q (.d x) := rfl
@[simp] theorem p1_neg (i : Int) (Q : D → Prop) : p1 .neg (.d (.int i)) Q = Q (.d (.int (-i))) := rfl
@[simp] theorem p1_inv (i : Int) (Q : D → Prop) : p1 .inv (.d (.int i)) Q = Q (.d (.int (Builtin.bitNot i))) := rfl
@[simp] theorem pTru_n (Q : Bool → Prop) : pTru (.d .none) Q = Q false := rfl
@[simp] theorem pTru_b (b : Bool) (Q : Bool → Prop) : pTru (.d (.bool b)) Q = Q b := rfl
@[simp] theorem pTru_i (b : Int) (Q : Bool → Prop) : pTru (.d (.int b)) Q = Q (b != 0) := rfl
@[simp] theorem pTru_l (b : List PyData) (Q : Bool → Prop) : pTru (.d (.list b)) Q = Q (!b.isEmpty) := rfl
@[simp] theorem pTru_t (b : List PyData) (Q : Bool → Prop) : pTru (.d (.tuple b)) Q = Q (!b.isEmpty) := rfl
@[simp] theorem pB_lenL (xs : List PyData) (Q : D → Prop) : pB .len [.d (.list xs)] Q = Q (.d (.int xs.length)) := rfl
@[simp] theorem pB_lenT (xs : List PyData) (Q : D → Prop) : pB .len [.d (.tuple xs)] Q = Q (.d (.int xs.length)) := rfl
@[simp] theorem pB_lenS (z : Str) (Q : D → Prop) : pB .len [.d (.str z)] Q = (z.length ≤ 1000000 ∧ Q (.d (.int z.length))) := rfl
@[simp] theorem pB_tupL (xs : List PyData) (Q : D → Prop) : pB .tup [.d (.list xs)] Q = Q (.d (.tuple xs)) := rfl
@[simp] theorem pB_tupT (xs : List PyData) (Q : D → Prop) : pB .tup [.d (.tuple xs)] Q = Q (.d (.tuple xs)) := rfl
@[simp] theorem pB_lstL (xs : List PyData) (Q : D → Prop) : pB .lst [.d (.list xs)] Q = Q (.d (.list xs)) := rfl
@[simp] theorem pB_lstT (xs : List PyData) (Q : D → Prop) : pB .lst [.d (.tuple xs)] Q = Q (.d (.list xs)) := rfl
def allT (xs : List PyData) : Bool := xs.all tru
def AllB (xs : List PyData) : Prop := xs.all isB = true
@[simp] theorem pB_all (xs : List PyData) (Q : D → Prop) : pB .all [.d (.list xs)] Q = (AllB xs ∧ Q (.d (.bool (allT xs)))) := rfl
@[simp] theorem allT_map {α : Type} (g : α → Bool) (xs : List α) : allT (xs.map fun x => .bool (g x)) = xs.all g := by
  unfold allT; rw [List.all_map]; rfl
@[simp] theorem AllB_map {α : Type} (g : α → Bool) (xs : List α) : AllB (xs.map fun x => .bool (g x)) := by
  unfold AllB; rw [List.all_map]; simp [isB]
@[simp] theorem pB_srt (xs : List PyData) (Q : D → Prop) : pB .srt [.d (.list xs)] Q = (PySem.W.AllAlike xs ∧ PySem.W.Sortable xs ∧ (∀ x, x ∈ xs → x.depth ≤ 50) ∧ Q (.d (.list (xs.mergeSort dle)))) := rfl
@[simp] theorem pB_min (x : PyData) (xs : List PyData) (Q : D → Prop) : pB .min [.d (.list (x :: xs))] Q = (PySem.W.AlikeAll (x :: xs) ∧ PyData.depthAll (x :: xs) ≤ 50 ∧ Q (.d (PySem.W.minD x xs))) := rfl
@[simp] theorem pB_min2 (i j : Int) (Q : D → Prop) : pB .min2 [.d (.int i), .d (.int j)] Q = Q (.d (.int (if j < i then j else i))) := rfl
@[simp] theorem pB_max2 (i j : Int) (Q : D → Prop) : pB .max2 [.d (.int i), .d (.int j)] Q = Q (.d (.int (if j > i then j else i))) := rfl
@[simp] theorem pSl_l (xs : List PyData) (lo hi : Option Int) (Q : D → Prop) : pSl (.d (.list xs)) lo hi Q = Q (.d (.list (cutD xs lo hi))) := rfl
@[simp] theorem pSl_t (xs : List PyData) (lo hi : Option Int) (Q : D → Prop) : pSl (.d (.tuple xs)) lo hi Q = Q (.d (.tuple (cutD xs lo hi))) := rfl
@[simp] theorem pSl_s (z : Str) (lo hi : Option Int) (Q : D → Prop) : pSl (.d (.str z)) lo hi Q = (z.length ≤ 1000000 ∧ Q (.d (.str (cutS z lo hi)))) := rfl
@[simp] theorem pAug_a (i j : Int) (Q : Int → Prop) : pAug .add i j Q = Q (i + j) := rfl
@[simp] theorem pAug_m (i j : Int) (Q : Int → Prop) : pAug .mul i j Q = (CMul i j ∧ Q (i * j)) := rfl
@[simp] theorem pAug_x (i j : Int) (Q : Int → Prop) : pAug .xor i j Q = Q (Builtin.bitXor i j) := rfl
@[simp] theorem bind_nm (i : Nat) (x : PyData) : bindP (.nm i) x env = some (env.set i (.d x)) := by simp [bindP]
@[simp] theorem bind_tn (xs : List PyData) : bindP .nil (.tuple xs) env = bindPs .nil xs env := by simp [bindP]
@[simp] theorem bind_tc (p r : Pat) (xs : List PyData) : bindP (.cons p r) (.tuple xs) env = bindPs (.cons p r) xs env := by simp [bindP]
@[simp] theorem binds_n : bindPs .nil [] env = some env := by simp [bindPs]
@[simp] theorem binds_c (p r : Pat) (x : PyData) (xs : List PyData) {env1 : List S} (h : bindP p x env = some env1) : bindPs (.cons p r) (x :: xs) env = bindPs r xs env1 := by simp [bindPs, h]
@[simp] theorem slots_nm (i : Nat) : Pat.slots (.nm i) = [i] := rfl
@[simp] theorem slots_nil : Pat.slots .nil = [] := rfl
@[simp] theorem slots_cons (p r : Pat) : Pat.slots (.cons p r) = p.slots ++ r.slots := rfl
@[simp] theorem wipeE_nil : wipeE env [] = env := rfl
@[simp] theorem wipeE_cons (v : Nat) (vs : List Nat) : wipeE env (v :: vs) = (wipeE env vs).set v .no := rfl
/-! ### comprehensions and loops -/
/-- a comprehension without effects -/
theorem compL_pure {p : Pat} {tt : TDb Ω} {e : TD Ω} (t : PyData → Bool) (f : PyData → PyData) {Q : List PyData → Ω → Prop} : ∀ {xs acc : List PyData},
    (∀ x ∈ xs, ∃ env1, bindP p x env = some env1 ∧ (∀ R : Bool → Ω → Prop, R (t x) ω → tt (fun _ _ => False) env1 ω R) ∧ (t x = true → ∀ R : QD Ω, R (.d (f x)) ω → e (fun _ _ => False) env1 ω R)) →
    Q (acc ++ (xs.filter t).map f) ω → compL p tt e env xs acc ω Q
  | [], acc, _, q => by simpa using q
  | x :: xs, acc, h, q => by
    rw [compL_cons]
    obtain ⟨env1, e1, e2, e3⟩ := h x List.mem_cons_self
    rw [e1, someK_s]
    refine e2 _ ?_
    have h' := fun y hy => h y (List.mem_cons_of_mem _ hy)
    cases ht : t x with
    | true => exact e3 ht _ (compL_pure t f h' (by simpa [List.filter_cons, ht] using q))
    | false => exact compL_pure t f h' (by simpa [List.filter_cons, ht] using q)
theorem compL_map {p : Pat} {e : TD Ω} (f : PyData → PyData) {Q : List PyData → Ω → Prop} {xs acc : List PyData}
    (h : ∀ x ∈ xs, ∃ env1, bindP p x env = some env1 ∧ (∀ R : QD Ω, R (.d (f x)) ω → e (fun _ _ => False) env1 ω R)) (q : Q (acc ++ xs.map f) ω) : compL p dYes e env xs acc ω Q :=
  compL_pure (fun _ => true) f (fun x hx => by obtain ⟨e1, a, b⟩ := h x hx; exact ⟨e1, a, fun R r => r, fun _ => b⟩) (by rw [List.filter_eq_self.mpr (fun _ _ => rfl)]; exact q)
/-- a comprehension, by an invariant -/
theorem compL_ind {p : Pat} {t : TDb Ω} {e : TD Ω} {Q : List PyData → Ω → Prop} (I : List PyData → List PyData → Ω → Prop) (hn : ∀ acc ω, I [] acc ω → Q acc ω)
    (hs : ∀ x rest acc ω, (∀ acc' ω', I rest acc' ω' → compL p t e env rest acc' ω' Q) → I (x :: rest) acc ω → compL p t e env (x :: rest) acc ω Q) : ∀ xs acc ω, I xs acc ω → compL p t e env xs acc ω Q
  | [], acc, ω, h => hn acc ω h
  | x :: xs, acc, ω, h => hs x xs acc ω (fun acc' ω' => compL_ind I hn hs xs acc' ω') h
/-- a loop, by an invariant -/
theorem forL_ind {p : Pat} {b : TDs Ω} (I : List PyData → List S → Ω → Prop) (hn : ∀ env ω, I [] env ω → Dc.nx env ω)
    (hs : ∀ x rest env ω, (∀ env' ω', I rest env' ω' → forL p b E Dc rest env' ω') → I (x :: rest) env ω → forL p b E Dc (x :: rest) env ω) : ∀ xs env ω, I xs env ω → forL p b E Dc xs env ω
  | [], env, ω, h => hn env ω h
  | x :: xs, env, ω, h => hs x xs env ω (fun env' ω' => forL_ind I hn hs xs env' ω') h
/-- a def without effects -/
def spF (f : List D → Option PyData) : FSpec Ω := fun ds ω Q _ => ∃ r, f ds = some r ∧ Q (.d r) ω
end
end Q
namespace Q
open PySem PySem.Spec PyProof.Rows L2
/-! ### what the small defs answer -/
def btw (v : PyData) (lo hi : Int) : Bool := match v with
  | .int i => decide (lo ≤ i) && decide (i ≤ hi)
  | _ => false
def isI : PyData → Bool
  | .int _ => true
  | _ => false
def lt2 : PyData → Bool
  | .tuple [.int a, .int b] => decide (a < b)
  | _ => false
def asc (xs : List PyData) : Bool := (zipD xs (xs.drop 1)).all lt2
def areM (m : Int) (v : PyData) : Bool := match v with
  | .tuple xs => xs.all (fun x => btw x 0 (m - 1)) && asc xs
  | _ => false
def memT (w : PyData) : PyData → Bool
  | .tuple ks => memD w ks
  | _ => false
theorem areM_tup {m : Int} {k : PyData} (h : areM m k = true) : ∃ ks, k = .tuple ks ∧ ks.all (fun x => btw x 0 (m - 1)) = true ∧ asc ks = true := by
  cases k <;> simp [areM] at h ⊢
  exact h
def isRecv (m : Int) (v : PyData) : Bool := match v with
  | .tuple [w, k] => btw w 0 (m - 1) && areM m k && !memT w k
  | _ => false
def recvs (w k : PyData) : Bool := match w, k with
  | .int m, .tuple rs => decide (1 ≤ rs.length) && decide (rs.length ≤ 6) && rs.all (isRecv m)
  | _, _ => false
def isTask (v : PyData) : Bool := match v with
  | .tuple [w, k] => btw w 1 6 && recvs w k
  | _ => false
def isSum (m : Int) (v : PyData) : Bool := areM m v && !PyData.eqv v (.tuple [])
def isCode (m : Int) (v : PyData) : Bool := match v with
  | .tuple xs => decide (xs.length ≤ 8) && xs.all (isSum m)
  | _ => false
@[simp] def f_is_between : List D → Option PyData
  | [.d v, .d (.int lo), .d (.int hi)] => some (.bool (btw v lo hi))
  | _ => none
@[simp] def f_is_ascending : List D → Option PyData
  | [.d (.tuple xs)] => if xs.all isI = true then some (.bool (asc xs)) else none
  | _ => none
@[simp] def f_are_messages : List D → Option PyData
  | [.d (.int m), .d v] => some (.bool (areM m v))
  | _ => none
@[simp] def f_is_receiver : List D → Option PyData
  | [.d (.int m), .d v] => some (.bool (isRecv m v))
  | _ => none
@[simp] def f_is_task : List D → Option PyData
  | [.d v] => some (.bool (isTask v))
  | _ => none
@[simp] def f_check_messages : List D → Option PyData
  | [.d v] => if btw v 1 6 = true then some .none else none
  | _ => none
@[simp] def f_is_sum : List D → Option PyData
  | [.d (.int m), .d v] => some (.bool (isSum m v))
  | _ => none
@[simp] def f_is_code_of : List D → Option PyData
  | [.d (.int m), .d v] => some (.bool (isCode m v))
  | _ => none
@[simp] def f_is_code : List D → Option PyData
  | [.d (.int m), .d v] => if btw (.int m) 1 6 = true then some (.bool (isCode m v)) else none
  | _ => none
@[simp] def f__law_is : List D → Option PyData
  | [.d (.bool a), .d (.bool b)] => some (.bool (a == b))
  | _ => none
@[simp] def f__law_bounds : List D → Option PyData
  | [] => some (.bool true)
  | _ => none
@[simp] theorem spF_k {Ω : Type} {ds : List D} {ω : Ω} {Q : QD Ω} {E : XD Ω} {f : List D → Option PyData} : spF f ds ω Q E = ∃ r, f ds = some r ∧ Q (.d r) ω := rfl
@[simp] theorem atI_c0 {α : Type} (x : α) (xs : List α) : atI (x :: xs) 0 = some x := by simp [atI, ixN]
@[simp] theorem atI_c1 {α : Type} (x y : α) (xs : List α) : atI (x :: y :: xs) 1 = some y := by
  have : (1 : Int) < (xs.length : Int) + 1 + 1 := by omega
  simp [atI, ixN, this]
@[simp] theorem depth_int (i : Int) : (PyData.int i).depth = 0 := by simp [PyData.depth]
@[simp] theorem depth_bool (i : Bool) : (PyData.bool i).depth = 0 := by simp [PyData.depth]
@[simp] theorem depth_none : (PyData.none).depth = 0 := by simp [PyData.depth]
@[simp] theorem depth_str (i : Str) : (PyData.str i).depth = 0 := by simp [PyData.depth]
@[simp] theorem eqv_ii (i j : Int) : PyData.eqv (.int i) (.int j) = decide (i = j) := by rw [PyData.eqv]; by_cases h : i = j <;> simp [h]
@[simp] theorem eqv_bb (i j : Bool) : PyData.eqv (.bool i) (.bool j) = decide (i = j) := by rw [PyData.eqv]; by_cases h : i = j <;> simp [h]
theorem cutD_1 {α : Type} (xs : List α) : cutD xs (some 1) none = xs.drop 1 := by
  unfold cutD
  cases xs with
  | nil => simp
  | cons x r =>
    have h1 : HT.sIx (x :: r).length 0 (some 1) = 1 := by simp [HT.sIx]
    have h2 : HT.sIx (x :: r).length (x :: r).length none = (x :: r).length := by simp [HT.sIx]
    rw [h1, h2]
    simp
theorem isI_of {x : PyData} (h : isI x = true) : ∃ i, x = .int i := by cases x <;> simp [isI] at h ⊢
theorem zip_mem : ∀ {xs ys : List PyData} {z : PyData}, z ∈ zipD xs ys → ∃ a ∈ xs, ∃ b ∈ ys, z = .tuple [a, b]
  | x :: xs, y :: ys, z, h => by
    rcases List.mem_cons.mp h with e | e
    · exact ⟨x, List.mem_cons_self, y, List.mem_cons_self, e⟩
    · obtain ⟨a, ha, b, hb, e⟩ := zip_mem e
      exact ⟨a, List.mem_cons_of_mem _ ha, b, List.mem_cons_of_mem _ hb, e⟩
  | [], _, _, h => by simp [zipD] at h
  | _ :: _, [], _, h => by simp [zipD] at h
theorem zip_ints {xs : List PyData} (h : xs.all isI = true) (z : PyData) (hz : z ∈ zipD xs xs.tail) : ∃ a b, z = .tuple [.int a, .int b] := by
  obtain ⟨a, ha, b, hb, rfl⟩ := zip_mem hz
  obtain ⟨i, rfl⟩ := isI_of (List.all_eq_true.mp h a ha)
  obtain ⟨j, rfl⟩ := isI_of (List.all_eq_true.mp h b (List.mem_of_mem_tail hb))
  exact ⟨i, j, rfl⟩
theorem btw_int {v : PyData} {lo hi : Int} (h : btw v lo hi = true) : ∃ i, v = .int i ∧ lo ≤ i ∧ i ≤ hi := by
  cases v <;> simp [btw] at h ⊢
  exact h
theorem btw_isI {v : PyData} {lo hi : Int} (h : btw v lo hi = true) : isI v = true := by
  obtain ⟨i, rfl, _⟩ := btw_int h
  rfl
end Q
namespace Q
open PySem PySem.Spec PyProof.Rows L2
/-! ### typed data: messages, receivers, tasks -/
abbrev iL (is : List Int) : List PyData := is.map PyData.int
structure MsgOk (n : Int) (is : List Int) : Prop where
  bd : ∀ i ∈ is, 0 ≤ i ∧ i < n
  up : is.Pairwise (· < ·)
theorem lt2_ii (a b : Int) : lt2 (.tuple [.int a, .int b]) = decide (a < b) := rfl
theorem asc_ints : ∀ {is : List Int}, asc (iL is) = true ↔ is.Pairwise (· < ·)
  | [] => by simp [asc, zipD]
  | [a] => by simp [asc, zipD]
  | a :: b :: r => by
    have ih := @asc_ints (b :: r)
    simp only [asc, iL, List.map_cons, List.drop_succ_cons, List.drop_zero, zipD, List.all_cons, lt2_ii, Bool.and_eq_true, decide_eq_true_eq] at ih ⊢
    rw [List.pairwise_cons]
    constructor
    · rintro ⟨h1, h2⟩
      have q := ih.mp h2
      refine ⟨fun c hc => ?_, q⟩
      rcases List.mem_cons.mp hc with z | z
      · rw [z]; exact h1
      · have := (List.pairwise_cons.mp q).1 c z; omega
    · rintro ⟨h1, h2⟩
      exact ⟨h1 b List.mem_cons_self, ih.mpr h2⟩
theorem areM_ints {n : Int} {is : List Int} : areM n (.tuple (iL is)) = true ↔ MsgOk n is := by
  unfold areM
  simp only [Bool.and_eq_true, asc_ints, List.all_map, List.all_eq_true, Function.comp, btw, decide_eq_true_eq]
  constructor
  · rintro ⟨a, b⟩
    exact ⟨fun i hi => by have := a i hi; omega, b⟩
  · rintro ⟨a, b⟩
    exact ⟨fun i hi => by have := a i hi; omega, b⟩
theorem all_ints : ∀ {xs : List PyData}, xs.all isI = true → ∃ is, xs = iL is
  | [], _ => ⟨[], rfl⟩
  | x :: xs, h => by
    rw [List.all_cons, Bool.and_eq_true] at h
    obtain ⟨i, rfl⟩ := isI_of h.1
    obtain ⟨is, rfl⟩ := all_ints h.2
    exact ⟨i :: is, rfl⟩
theorem areM_elim {n : Int} {v : PyData} (h : areM n v = true) : ∃ is, v = .tuple (iL is) ∧ MsgOk n is := by
  obtain ⟨ks, rfl, a, b⟩ := areM_tup h
  obtain ⟨is, rfl⟩ := all_ints (List.all_eq_true.mpr fun x hx => btw_isI (List.all_eq_true.mp a x hx))
  exact ⟨is, rfl, areM_ints.mp h⟩
theorem memD_ints {i : Int} {is : List Int} : memD (.int i) (iL is) = decide (i ∈ is) := by
  induction is with
  | nil => simp [memD]
  | cons a r ih =>
    have : memD (.int i) (iL (a :: r)) = (decide (a = i) || memD (.int i) (iL r)) := by simp [memD]
    rw [this, ih]
    by_cases h : a = i
    · simp [h]
    · have h' : i ≠ a := fun z => h z.symm
      simp [h, h']
abbrev Rc := Int × List Int
def rcD (r : Rc) : PyData := .tuple [.int r.1, .tuple (iL r.2)]
structure RcOk (n : Int) (r : Rc) : Prop where
  lo : 0 ≤ r.1
  hi : r.1 < n
  ms : MsgOk n r.2
  nw : r.1 ∉ r.2
theorem isRecv_rc {n : Int} {r : Rc} : isRecv n (rcD r) = true ↔ RcOk n r := by
  simp only [isRecv, rcD, Bool.and_eq_true, areM_ints, memT, memD_ints, btw, decide_eq_true_eq, Bool.not_eq_true', decide_eq_false_iff_not]
  constructor
  · rintro ⟨⟨a, b⟩, c⟩; exact ⟨by omega, by omega, b, c⟩
  · rintro ⟨a, b, c, d⟩; exact ⟨⟨⟨a, by omega⟩, c⟩, d⟩
def taskD (n : Int) (rs : List Rc) : PyData := .tuple [.int n, .tuple (rs.map rcD)]
structure TaskOk (n : Int) (rs : List Rc) : Prop where
  n1 : 1 ≤ n
  n6 : n ≤ 6
  r1 : 1 ≤ rs.length
  r6 : rs.length ≤ 6
  ok : ∀ r ∈ rs, RcOk n r
theorem isTask_d {n : Int} {rs : List Rc} : isTask (taskD n rs) = true ↔ TaskOk n rs := by
  simp only [isTask, taskD, recvs, Bool.and_eq_true, btw, decide_eq_true_eq, List.length_map, List.all_map, List.all_eq_true, Function.comp, isRecv_rc]
  constructor
  · rintro ⟨⟨a, b⟩, ⟨c, d⟩, e⟩; exact ⟨a, b, c, d, e⟩
  · rintro ⟨a, b, c, d, e⟩; exact ⟨⟨a, b⟩, ⟨c, d⟩, e⟩
theorem rng_up : ∀ (lo : Int) (n : Nat), ((List.range n).map fun (i : Nat) => lo + (i : Int)).Pairwise (· < ·) := fun lo n => by
  rw [List.pairwise_map]
  exact List.Pairwise.imp (fun {a b} h => by omega) List.pairwise_lt_range
theorem rngD_ints (lo : Int) (n : Nat) : rngD lo n = iL ((List.range n).map fun (i : Nat) => lo + (i : Int)) := by simp [rngD, iL, List.map_map, Function.comp]
theorem sub_map {α β : Type} {f : α → β} {ys : List α} {xs : List β} (h : xs.Sublist (ys.map f)) : ∃ zs : List α, zs.Sublist ys ∧ xs = zs.map f := by
  obtain ⟨z, a, b⟩ := List.sublist_map_iff.mp h
  exact ⟨z, a, b⟩
/-- what is drawn of range(n) -/
theorem sub_rng {n : Nat} {zs : List PyData} (h : zs.Sublist (rngD 0 n)) : ∃ is, zs = iL is ∧ MsgOk n is := by
  rw [rngD_ints] at h
  obtain ⟨is, a, rfl⟩ := sub_map h
  refine ⟨is, rfl, fun i hi => ?_, (rng_up 0 n).sublist a⟩
  have := a.subset hi
  obtain ⟨k, hk, rfl⟩ := List.mem_map.mp this
  have := List.mem_range.mp hk
  omega
theorem MsgOk.sub {n : Int} {is js : List Int} (h : MsgOk n is) (s : js.Sublist is) : MsgOk n js := ⟨fun i hi => h.bd i (s.subset hi), h.up.sublist s⟩
theorem filt_ne (w : Int) : ∀ is : List Int, ((iL is).filter fun x => !PyData.eqv x (.int w)).map id = iL (is.filter fun i => decide (i ≠ w))
  | [] => rfl
  | a :: r => by
    have ih := filt_ne w r
    simp only [iL, List.map_cons, List.filter_cons, eqv_ii, List.map_id] at ih ⊢
    by_cases h : a = w
    · simp [h]; simpa using ih
    · simp [h]; simpa using ih
/-! ### draws -/
section
variable {E : XD (Option Addr)} {env : List S} {ω : Option Addr}
@[simp] theorem spDraw_k {sa t : Addr} {many : Int} {Q : QD (Option Addr)} : spDraw sa [.r (.ref sa), .r (.ref t), .d (.int many)] (some t) Q E ↔ 0 < many ∧ many ≤ 1000000 ∧ ∀ r, 0 ≤ r → r < many → Q (.d (.int r)) (some t) := by
  constructor
  · rintro ⟨t', many', e, e2, a, b, c⟩
    cases e; exact ⟨a, b, c⟩
  · rintro ⟨a, b, c⟩
    exact ⟨t, many, rfl, rfl, a, b, c⟩
@[simp] theorem spBegun_k {Q : QD (Option Addr)} : spBegun [] none Q E ↔ ∀ t, Q (.r (.ref t)) (some t) := by simp [spBegun]
/-- some of xs -/
theorem compL_any {i : Nat} {tt : TDb (Option Addr)} {Q : List PyData → Option Addr → Prop} (hi : i < env.length) : ∀ {xs acc : List PyData}, (∀ x ∈ xs, ∀ R : Bool → Option Addr → Prop, (∀ b, R b ω) → tt (fun _ _ => False) (env.set i (.d x)) ω R) →
    (∀ zs, zs.Sublist xs → Q (acc ++ zs) ω) → compL (.nm i) tt (dVar i) env xs acc ω Q
  | [], acc, _, q => by simpa using q [] (.refl _)
  | x :: xs, acc, h, q => by
    rw [compL_cons, bind_nm, someK_s]
    refine h x List.mem_cons_self _ fun b => ?_
    have h' := fun y hy => h y (List.mem_cons_of_mem _ hy)
    cases b with
    | true =>
      rw [ifK_b, if_pos rfl, dVar_k, List.getElem?_set_self hi, slotK_d, datK_d]
      exact compL_any hi h' fun zs s => by simpa using q (x :: zs) (s.cons₂ x)
    | false =>
      rw [ifK_b, if_neg (by simp)]
      exact compL_any hi h' fun zs s => q zs (s.cons x)
/-- n turns -/
theorem compL_rep {p : Pat} {e : TD (Option Addr)} (P : PyData → Prop) {Q : List PyData → Option Addr → Prop} : ∀ {xs acc : List PyData},
    (∀ x ∈ xs, ∃ env1, bindP p x env = some env1 ∧ (∀ R : QD (Option Addr), (∀ y, P y → R (.d y) ω) → e (fun _ _ => False) env1 ω R)) →
    (∀ zs, zs.length = xs.length → (∀ z ∈ zs, P z) → Q (acc ++ zs) ω) → compL p dYes e env xs acc ω Q
  | [], acc, _, q => by simpa using q [] rfl (by simp)
  | x :: xs, acc, h, q => by
    rw [compL_cons]
    obtain ⟨env1, e1, e2⟩ := h x List.mem_cons_self
    rw [e1, someK_s, dYes_k, ifK_b, if_pos rfl]
    refine e2 _ fun y py => ?_
    rw [datK_d]
    refine compL_rep P (fun y hy => h y (List.mem_cons_of_mem _ hy)) fun zs hz hp => ?_
    rw [List.append_assoc]
    exact q (y :: zs) (by simp [hz]) fun z hz => (List.mem_cons.mp hz).elim (fun e => e ▸ py) (hp z)
end
/-- a task is drawn -/
def spTask (sa : Addr) : FSpec (Option Addr) := fun ds ω Q _ => ∃ (t : Addr) (most many : Int), ds = [.r (.ref sa), .r (.ref t), .d (.int most), .d (.int many)] ∧ ω = some t ∧ 1 ≤ most ∧ most ≤ 6 ∧ 1 ≤ many ∧ many ≤ 6 ∧
  ∀ (n : Int) (rs : List Rc), TaskOk n rs → n ≤ most → (rs.length : Int) ≤ many → Q (.d (taskD n rs)) ω
/-- a sum is drawn -/
def spSum (sa : Addr) : FSpec (Option Addr) := fun ds ω Q _ => ∃ (t : Addr) (n : Int), ds = [.r (.ref sa), .r (.ref t), .d (.int n)] ∧ ω = some t ∧ 1 ≤ n ∧ n ≤ 6 ∧
  ∀ is : List Int, MsgOk n is → is ≠ [] → Q (.d (.tuple (iL is))) ω
def codeD (c : List (List Int)) : PyData := .tuple (c.map fun is => .tuple (iL is))
structure CodeOk (n : Int) (c : List (List Int)) : Prop where
  ok : ∀ s ∈ c, MsgOk n s ∧ s ≠ []
theorem sums_of {n : Int} : ∀ {zs : List PyData}, (∀ z ∈ zs, ∃ is, z = .tuple (iL is) ∧ MsgOk n is ∧ is ≠ []) → ∃ c : List (List Int), zs = (c.map fun is => .tuple (iL is)) ∧ ∀ s ∈ c, MsgOk n s ∧ s ≠ []
  | [], _ => ⟨[], rfl, by simp⟩
  | z :: zs, h => by
    obtain ⟨is, rfl, a, b⟩ := h z List.mem_cons_self
    obtain ⟨c, rfl, hc⟩ := sums_of fun y hy => h y (List.mem_cons_of_mem _ hy)
    exact ⟨is :: c, rfl, fun s hs => (List.mem_cons.mp hs).elim (fun e => e ▸ ⟨a, b⟩) (hc s)⟩
/-- a code is drawn -/
def spCode (sa : Addr) : FSpec (Option Addr) := fun ds ω Q _ => ∃ (t : Addr) (n most : Int), ds = [.r (.ref sa), .r (.ref t), .d (.int n), .d (.int most)] ∧ ω = some t ∧ 1 ≤ n ∧ n ≤ 6 ∧ 0 ≤ most ∧ most ≤ 8 ∧
  ∀ c : List (List Int), CodeOk n c → (c.length : Int) ≤ most → Q (.d (codeD c)) ω
theorem MsgOk.len {n : Int} {is : List Int} (h : MsgOk n is) (n0 : 0 ≤ n) : (is.length : Int) ≤ n := by
  have := pig n.toNat is (List.Pairwise.imp (fun {a b} (h : a < b) => by omega) h.up) fun x hx => by have := h.bd x hx; omega
  omega
theorem cutD_le {α : Type} (xs : List α) (lo hi : Option Int) : (cutD xs lo hi).length ≤ xs.length := by
  unfold cutD
  rw [List.length_take, List.length_drop]
  omega
theorem isTask_odd {n : Int} {a b : List PyData} {x : PyData} (h : isRecv n x = false) : isTask (.tuple [.int n, .tuple (a ++ x :: b)]) = false := by
  simp [isTask, recvs, h]
theorem isCode_d {n : Int} {c : List (List Int)} (h : CodeOk n c) (l : c.length ≤ 8) : isCode n (codeD c) = true := by
  simp only [isCode, codeD, List.length_map, Bool.and_eq_true, decide_eq_true_eq, List.all_map, List.all_eq_true, Function.comp]
  refine ⟨l, fun s hs => ?_⟩
  obtain ⟨a, b⟩ := h.ok s hs
  cases s with
  | nil => exact absurd rfl b
  | cons x r => simp [isSum, areM_ints.mpr a, PyData.eqv, PyData.eqvAll]; exact areM_ints.mpr a
theorem isCode_odd {n : Int} {a : List PyData} {x : PyData} (h : isSum n x = false) : isCode n (.tuple (a ++ [x])) = false := by
  simp [isCode, h]
/-- a law answers True -/
def spLaw (sa : Addr) : FSpec (Option Addr) := fun ds ω Q _ => ds = [.r (.ref sa)] ∧ ω = none ∧ ∀ ω', Q (.d (.bool true)) ω'
end Q
namespace Q
open PySem PySem.Spec PyProof.Rows L2
/-! ### from the defs to the law -/
theorem vals_len {vs : List V} {us : List Value} (r : Vals vs us) : vs.length = us.length := Paired.length r
theorem vals_app {vs zs : List V} {us ws : List Value} (a : Vals vs us) (b : Vals zs ws) : Vals (vs ++ zs) (us ++ ws) := by
  induction a with
  | nil => exact b
  | cons x _ ih => exact .cons x ih
theorem kb_of {K : PySem.W.Frag} {x qual : Str} {params : Arguments} {body : List Stmt} {scope : Scope} {kws : List (Str × V)} {f : Addr} {fd : FuncData} {ps ks : List Str} {n : Nat} (F : FunD K x qual params body scope [] kws f fd) (h0 : ps ≠ [])
    (h : ∀ (kV doc pm : Value) (an : Option Addr) (cdv ct : Value) (us ws : List Value), us.length = n → us.length + ws.length = ps.length → bindArgs (PySem.W.fnOf x qual params body scope .none kV doc pm an cdv ct) ⟨us, ks.zip ws⟩ = pure (ps.zip (us ++ ws))) : KBinds K fd ps ks (gN n) (gN n) := by
  obtain ⟨oc, od, dV, kV, doc, pm, an, cdv, ct, osl, rfl, lk, hcd, hD, hK⟩ := F.ex
  rcases hD with ⟨_, rfl⟩ | ⟨e, _⟩
  · refine ⟨fun s us ws X hl => ?_, fun {vs us zs ws} a b => ?_⟩
    · by_cases hn : us.length = n
      · have e : gN n us ws = us ++ ws := if_pos hn
        rw [e] at hl ⊢
        exact .of_eq (h kV doc pm an cdv ct us ws hn (by rw [← hl, List.length_append]))
      · have e : gN n us ws = [] := if_neg hn
        rw [e] at hl
        exact absurd (List.eq_nil_of_length_eq_zero hl.symm) h0
    · unfold gN
      rw [vals_len a]
      split
      · exact vals_app a b
      · exact .nil
  · exact absurd rfl e
def restr (H : Hp) (a : Addr) : Hp := fun b => if b = a then H a else none
theorem restr_w {K : PySem.W.Frag} {H : Hp} {sa : Addr} {ns : List Int} (h : SqL K H sa (ns.map V.int)) : Hw (Wd K sa ns) none (fun _ => none) (restr H sa) H := by
  refine ⟨fun _ _ h => (by cases h), fun a o h => ?_, fun _ _ h => (by cases h), ?_⟩
  · unfold restr at h
    split at h
    · next e => rw [e]; exact h
    · cases h
  · rcases h with (h | ⟨o, h⟩) | h
    · exact .inl (.inl (by show (if sa = sa then H sa else none) = _; rw [if_pos rfl]; exact h))
    · exact .inl (.inr ⟨o, by show (if sa = sa then H sa else none) = _; rw [if_pos rfl]; exact h⟩)
    · exact .inr h
def spTop (K : PySem.W.Frag) : Sp := fun vs H Q _ => ∃ (a : Addr) (ns : List Int), vs = [.ref a] ∧ ns.length ≤ 63 ∧ SqL K H a (ns.map V.int) ∧ ∀ H', Q (.bl true) H'
/-- what flies out, in whatever world -/
def CXA (P : Program) : CXT := fun outer H s E u s' => ∃ w, L2.CX P w outer H s E u s'
theorem top_ok {P : Program} {w : World} {K : PySem.W.Frag} {mg : Str → Option Value} {base : Heap} {k : Nat} {f : Addr} {fd : FuncData} {cx : Nat → Value}
    (h : ∀ (sa : Addr) (ns : List Int), ns.length ≤ 63 → FnOk P w K mg base (L2.CX P w) k f fd ["script"] (spOf (Wd K sa ns) cx 1 (spLaw sa))) : FnOk P w K mg base (CXA P) k f fd ["script"] (spTop K) := by
  refine ⟨fun vs H Q E ⟨a, ns, e, _⟩ => by rw [e]; rfl, fun A outer s H args us vs Q E hr he hb hv ⟨a, ns, e, hl, hS, hq⟩ => ?_⟩
  subst e
  refine codeAny_mono ((h a ns hl).run A outer s H args us [.ref a] Q E hr he hb hv ?_) fun r s' q => ?_
  · refine ⟨fun _ => none, restr H a, none, [.r (.ref a)], fun d _ => d = .d (.bool true), fun _ _ => False, restr_w hS, .cons rfl .nil, rfl, ⟨rfl, rfl, fun _ => rfl⟩, fun d ω' v H' F' M' e _ _ r => ?_, fun _ _ _ _ _ z => z.elim⟩
    subst e
    cases r
    exact hq H'
  · cases r with
    | ok c => cases c <;> exact q
    | error e => exact ⟨w, q⟩
theorem cx_no {P : Program} : ∀ (H : Hp) (s : Shared) (e : Value) (s' : Shared), CXA P [] H s (fun _ _ _ => False) e s' → False := by
  rintro H s e s' ⟨_, _, _, _, _, _, _, _, _, _, _, _, _, z⟩
  exact z
theorem funD_same {K : PySem.W.Frag} {x qual x2 qual2 : Str} {params params2 : Arguments} {body body2 : List Stmt} {scope scope2 : Scope} {dvs dvs2 : List V} {kws kws2 : List (Str × V)} {f : Addr} {fd fd2 : FuncData} (F : FunD K x qual params body scope dvs kws f fd) (F2 : FunD K x2 qual2 params2 body2 scope2 dvs2 kws2 f fd2) : fd = fd2 := by
  obtain ⟨_, _, _, _, _, _, _, _, _, _, _, l1, _⟩ := F.ex
  obtain ⟨_, _, _, _, _, _, _, _, _, _, _, l2, _⟩ := F2.ex
  rw [l1] at l2
  cases l2
  rfl
end Q
namespace L01
open PySem PySem.Spec PyProof.Rows L2 Q
def topS (i : Nat) : Stmt := PySem.Challenge.pw_codecast_k01_not_tasks.main.body.getD i (.Pass ⟨0, 0, 0, 0⟩)
def G : Glob := { fns := ["is_between", "is_ascending", "are_messages", "is_receiver", "is_task", "check_messages", "is_sum", "is_code_of", "is_code", "_law_is", "_law_draw", "_law_begun", "_law_task", "_law_sum", "_law_code", "_law_bounds", "law"], cns := ["MOST", "SUMS"], exs := ["CastError", "InvalidMessages"], nf := 0, kws := [(4, 0, ["value"]), (8, 0, ["messages", "value"])] }
abbrev s_is_between : Stmt := topS 6
abbrev s_is_ascending : Stmt := topS 7
abbrev s_are_messages : Stmt := topS 8
abbrev s_is_receiver : Stmt := topS 9
abbrev s_is_task : Stmt := topS 10
abbrev s_check_messages : Stmt := topS 11
abbrev s_is_sum : Stmt := topS 12
abbrev s_is_code_of : Stmt := topS 13
abbrev s_is_code : Stmt := topS 14
abbrev s__law_is : Stmt := topS 16
abbrev s__law_draw : Stmt := topS 17
abbrev s__law_begun : Stmt := topS 18
abbrev s__law_task : Stmt := topS 19
abbrev s__law_sum : Stmt := topS 20
abbrev s__law_code : Stmt := topS 21
abbrev s__law_bounds : Stmt := topS 22
abbrev s_law : Stmt := topS 23
def n_is_between : List Str := ["value", "low", "high"]
theorem sc_is_between : FnScope n_is_between ["value", "low", "high"] (defScope s_is_between) := ⟨rfl, rfl, rfl, by decide +kernel, rfl, by decide +kernel, by decide +kernel⟩
def c_is_between : CS := (.cons (.ret (.and (.isa .int (.var 0)) (.and (.not (.isa .bool (.var 0))) (.chain .le .le (.var 1) (.var 0) (.var 2))))) .nil)
theorem ck_is_between : (chkS (G.at 0) c_is_between).l ⟨n_is_between, defScope s_is_between, fun _ => true⟩ (defBody s_is_between) = true := by decide +kernel
def n_is_ascending : List Str := ["values", "one", "other"]
theorem sc_is_ascending : FnScope n_is_ascending ["values"] (defScope s_is_ascending) := ⟨rfl, rfl, rfl, by decide +kernel, rfl, by decide +kernel, by decide +kernel⟩
def c_is_ascending : CS := (.cons (.ret (.blt .all (.cons (.comp false (.zip (.var 0) (.sl (.var 0) (.con (.int 1)) .no)) (.cons (.nm 1) (.cons (.nm 2) .nil)) .yes (.bin .lt (.var 1) (.var 2))) .nil))) .nil)
theorem ck_is_ascending : (chkS (G.at 1) c_is_ascending).l ⟨n_is_ascending, defScope s_is_ascending, fun _ => true⟩ (defBody s_is_ascending) = true := by decide +kernel
def n_are_messages : List Str := ["messages", "value", "one"]
theorem sc_are_messages : FnScope n_are_messages ["messages", "value"] (defScope s_are_messages) := ⟨rfl, rfl, rfl, by decide +kernel, rfl, by decide +kernel, by decide +kernel⟩
def c_are_messages : CS := (.cons (.ifS (.or (.not (.isa .tuple (.var 1))) (.not (.blt .all (.cons (.comp false (.var 1) (.nm 2) .yes (.call 0 (.cons (.var 2) (.cons (.con (.int 0)) (.cons (.bin .sub (.var 0) (.con (.int 1))) .nil))))) .nil)))) (.cons (.ret (.con (.bool false))) .nil) .nil) (.cons (.ret (.call 1 (.cons (.var 1) .nil))) .nil))
theorem ck_are_messages : (chkS (G.at 2) c_are_messages).l ⟨n_are_messages, defScope s_are_messages, fun _ => true⟩ (defBody s_are_messages) = true := by decide +kernel
def n_is_receiver : List Str := ["messages", "value"]
theorem sc_is_receiver : FnScope n_is_receiver ["messages", "value"] (defScope s_is_receiver) := ⟨rfl, rfl, rfl, by decide +kernel, rfl, by decide +kernel, by decide +kernel⟩
def c_is_receiver : CS := (.cons (.ifS (.or (.not (.isa .tuple (.var 1))) (.or (.bin .ne (.blt .len (.cons (.var 1) .nil)) (.con (.int 2))) (.not (.call 0 (.cons (.bin .ix (.var 1) (.con (.int 0))) (.cons (.con (.int 0)) (.cons (.bin .sub (.var 0) (.con (.int 1))) .nil))))))) (.cons (.ret (.con (.bool false))) .nil) .nil) (.cons (.ret (.and (.call 2 (.cons (.var 0) (.cons (.bin .ix (.var 1) (.con (.int 1))) .nil))) (.bin .notin (.bin .ix (.var 1) (.con (.int 0))) (.bin .ix (.var 1) (.con (.int 1)))))) .nil))
theorem ck_is_receiver : (chkS (G.at 3) c_is_receiver).l ⟨n_is_receiver, defScope s_is_receiver, fun _ => true⟩ (defBody s_is_receiver) = true := by decide +kernel
def n_is_task : List Str := ["value", "messages", "receivers", "one"]
theorem sc_is_task : FnScope n_is_task ["value"] (defScope s_is_task) := ⟨rfl, rfl, rfl, by decide +kernel, rfl, by decide +kernel, by decide +kernel⟩
def c_is_task : CS := (.cons (.ifS (.or (.not (.isa .tuple (.var 0))) (.or (.bin .ne (.blt .len (.cons (.var 0) .nil)) (.con (.int 2))) (.not (.call 0 (.cons (.bin .ix (.var 0) (.con (.int 0))) (.cons (.con (.int 1)) (.cons (.glo 0) .nil))))))) (.cons (.ret (.con (.bool false))) .nil) .nil) (.cons (.pat (.cons (.nm 1) (.cons (.nm 2) .nil)) (.var 0)) (.cons (.ifS (.or (.not (.isa .tuple (.var 2))) (.not (.chain .le .le (.con (.int 1)) (.blt .len (.cons (.var 2) .nil)) (.glo 0)))) (.cons (.ret (.con (.bool false))) .nil) .nil) (.cons (.ret (.blt .all (.cons (.comp false (.var 2) (.nm 3) .yes (.call 3 (.cons (.var 1) (.cons (.var 3) .nil)))) .nil))) .nil))))
theorem ck_is_task : (chkS (G.at 4) c_is_task).l ⟨n_is_task, defScope s_is_task, fun _ => true⟩ (defBody s_is_task) = true := by decide +kernel
def n_check_messages : List Str := ["messages"]
theorem sc_check_messages : FnScope n_check_messages ["messages"] (defScope s_check_messages) := ⟨rfl, rfl, rfl, by decide +kernel, rfl, by decide +kernel, by decide +kernel⟩
def c_check_messages : CS := (.cons (.ifS (.not (.call 0 (.cons (.var 0) (.cons (.con (.int 1)) (.cons (.glo 0) .nil))))) (.cons (.raise 1) .nil) .nil) .nil)
theorem ck_check_messages : (chkS (G.at 5) c_check_messages).l ⟨n_check_messages, defScope s_check_messages, fun _ => true⟩ (defBody s_check_messages) = true := by decide +kernel
def n_is_sum : List Str := ["messages", "value"]
theorem sc_is_sum : FnScope n_is_sum ["messages", "value"] (defScope s_is_sum) := ⟨rfl, rfl, rfl, by decide +kernel, rfl, by decide +kernel, by decide +kernel⟩
def c_is_sum : CS := (.cons (.ret (.and (.call 2 (.cons (.var 0) (.cons (.var 1) .nil))) (.bin .ne (.var 1) (.tup .nil)))) .nil)
theorem ck_is_sum : (chkS (G.at 6) c_is_sum).l ⟨n_is_sum, defScope s_is_sum, fun _ => true⟩ (defBody s_is_sum) = true := by decide +kernel
def n_is_code_of : List Str := ["messages", "value", "one"]
theorem sc_is_code_of : FnScope n_is_code_of ["messages", "value"] (defScope s_is_code_of) := ⟨rfl, rfl, rfl, by decide +kernel, rfl, by decide +kernel, by decide +kernel⟩
def c_is_code_of : CS := (.cons (.ret (.and (.isa .tuple (.var 1)) (.and (.bin .le (.blt .len (.cons (.var 1) .nil)) (.glo 1)) (.blt .all (.cons (.comp false (.var 1) (.nm 2) .yes (.call 6 (.cons (.var 0) (.cons (.var 2) .nil)))) .nil))))) .nil)
theorem ck_is_code_of : (chkS (G.at 7) c_is_code_of).l ⟨n_is_code_of, defScope s_is_code_of, fun _ => true⟩ (defBody s_is_code_of) = true := by decide +kernel
def n_is_code : List Str := ["messages", "value"]
theorem sc_is_code : FnScope n_is_code ["messages", "value"] (defScope s_is_code) := ⟨rfl, rfl, rfl, by decide +kernel, rfl, by decide +kernel, by decide +kernel⟩
def c_is_code : CS := (.cons (.drop (.call 5 (.cons (.var 0) .nil))) (.cons (.ret (.call 7 (.cons (.var 0) (.cons (.var 1) .nil)))) .nil))
theorem ck_is_code : (chkS (G.at 8) c_is_code).l ⟨n_is_code, defScope s_is_code, fun _ => true⟩ (defBody s_is_code) = true := by decide +kernel
def n__law_is : List Str := ["result", "expected"]
theorem sc__law_is : FnScope n__law_is ["result", "expected"] (defScope s__law_is) := ⟨rfl, rfl, rfl, by decide +kernel, rfl, by decide +kernel, by decide +kernel⟩
def c__law_is : CS := (.cons (.ret (.and (.isa .bool (.var 0)) (.bin .eq (.var 0) (.var 1)))) .nil)
theorem ck__law_is : (chkS (G.at 9) c__law_is).l ⟨n__law_is, defScope s__law_is, fun _ => true⟩ (defBody s__law_is) = true := by decide +kernel
def n__law_task : List Str := ["script", "town", "most", "many", "total", "receivers", "k", "want", "some", "one"]
theorem sc__law_task : FnScope n__law_task ["script", "town", "most", "many"] (defScope s__law_task) := ⟨rfl, rfl, rfl, by decide +kernel, rfl, by decide +kernel, by decide +kernel⟩
def c__law_task : CS := (.cons (.par 4 5 (.bin .add (.con (.int 1)) (.call 10 (.cons (.var 0) (.cons (.var 1) (.cons (.var 2) .nil))))) (.lst true .nil)) (.cons (.forS (.rng1 (.bin .add (.con (.int 1)) (.call 10 (.cons (.var 0) (.cons (.var 1) (.cons (.var 3) .nil)))))) (.nm 6) (.cons (.set 7 (.call 10 (.cons (.var 0) (.cons (.var 1) (.cons (.var 4) .nil))))) (.cons (.set 8 (.comp false (.rng1 (.var 4)) (.nm 9) (.bin .eq (.call 10 (.cons (.var 0) (.cons (.var 1) (.cons (.con (.int 2)) .nil)))) (.con (.int 0))) (.var 9))) (.cons (.app 5 (.tup (.cons (.var 7) (.cons (.blt .tup (.cons (.comp false (.var 8) (.nm 9) (.bin .ne (.var 9) (.var 7)) (.var 9)) .nil)) .nil)))) .nil)))) (.frz 5 (.cons (.ret (.tup (.cons (.var 4) (.cons (.blt .tup (.cons (.var 5) .nil)) .nil)))) .nil))))
theorem ck__law_task : (chkS (G.at 12) c__law_task).l ⟨n__law_task, defScope s__law_task, fun _ => true⟩ (defBody s__law_task) = true := by decide +kernel
def n__law_sum : List Str := ["script", "town", "messages_here", "found", "one"]
theorem sc__law_sum : FnScope n__law_sum ["script", "town", "messages_here"] (defScope s__law_sum) := ⟨rfl, rfl, rfl, by decide +kernel, rfl, by decide +kernel, by decide +kernel⟩
def c__law_sum : CS := (.cons (.set 3 (.blt .tup (.cons (.comp false (.rng1 (.var 2)) (.nm 4) (.bin .eq (.call 10 (.cons (.var 0) (.cons (.var 1) (.cons (.con (.int 2)) .nil)))) (.con (.int 0))) (.var 4)) .nil))) (.cons (.ret (.ite (.bin .ne (.var 3) (.tup .nil)) (.var 3) (.tup (.cons (.call 10 (.cons (.var 0) (.cons (.var 1) (.cons (.var 2) .nil)))) .nil)))) .nil))
theorem ck__law_sum : (chkS (G.at 13) c__law_sum).l ⟨n__law_sum, defScope s__law_sum, fun _ => true⟩ (defBody s__law_sum) = true := by decide +kernel
def n__law_code : List Str := ["script", "town", "messages_here", "most", "k"]
theorem sc__law_code : FnScope n__law_code ["script", "town", "messages_here", "most"] (defScope s__law_code) := ⟨rfl, rfl, rfl, by decide +kernel, rfl, by decide +kernel, by decide +kernel⟩
def c__law_code : CS := (.cons (.ret (.blt .tup (.cons (.comp false (.rng1 (.call 10 (.cons (.var 0) (.cons (.var 1) (.cons (.bin .add (.var 3) (.con (.int 1))) .nil))))) (.nm 4) .yes (.call 13 (.cons (.var 0) (.cons (.var 1) (.cons (.var 2) .nil))))) .nil))) .nil)
theorem ck__law_code : (chkS (G.at 14) c__law_code).l ⟨n__law_code, defScope s__law_code, fun _ => true⟩ (defBody s__law_code) = true := by decide +kernel
def n__law_bounds : List Str := ["value_here", "odds"]
theorem sc__law_bounds : FnScope n__law_bounds [] (defScope s__law_bounds) := ⟨rfl, rfl, rfl, by decide +kernel, rfl, by decide +kernel, by decide +kernel⟩
def c__law_bounds : CS := (.cons (.forS (.tup (.cons (.tup (.cons (.con (.int 1)) (.cons (.tup (.cons (.tup (.cons (.con (.int 0)) (.cons (.tup .nil) .nil))) .nil)) .nil))) (.cons (.tup (.cons (.con (.int 6)) (.cons (.bin .mul (.tup (.cons (.tup (.cons (.con (.int 5)) (.cons (.tup (.cons (.con (.int 0)) (.cons (.con (.int 1)) (.cons (.con (.int 2)) (.cons (.con (.int 3)) (.cons (.con (.int 4)) .nil)))))) .nil))) .nil)) (.con (.int 6))) .nil))) (.cons (.tup (.cons (.con (.int 2)) (.cons (.tup (.cons (.tup (.cons (.con (.int 0)) (.cons (.tup (.cons (.con (.int 1)) .nil)) .nil))) (.cons (.tup (.cons (.con (.int 0)) (.cons (.tup (.cons (.con (.int 1)) .nil)) .nil))) .nil))) .nil))) .nil)))) (.nm 0) (.cons (.ifS (.not (.call 9 (.cons (.call 4 (.cons (.var 0) .nil)) (.cons (.con (.bool true)) .nil)))) (.cons (.ret (.con (.bool false))) .nil) .nil) .nil)) (.cons (.set 1 (.lst false (.cons (.tup (.cons (.con (.int 0)) (.cons (.tup (.cons (.tup (.cons (.con (.int 0)) (.cons (.tup .nil) .nil))) .nil)) .nil))) (.cons (.tup (.cons (.con (.int 7)) (.cons (.tup (.cons (.tup (.cons (.con (.int 0)) (.cons (.tup .nil) .nil))) .nil)) .nil))) (.cons (.tup (.cons (.con (.int 1)) (.cons (.tup .nil) .nil))) (.cons (.tup (.cons (.con (.int 1)) (.cons (.bin .mul (.tup (.cons (.tup (.cons (.con (.int 0)) (.cons (.tup .nil) .nil))) .nil)) (.con (.int 7))) .nil))) (.cons (.tup (.cons (.con (.int 2)) (.cons (.tup (.cons (.tup (.cons (.con (.int 0)) (.cons (.tup (.cons (.con (.int 0)) .nil)) .nil))) .nil)) .nil))) (.cons (.tup (.cons (.con (.int 2)) (.cons (.tup (.cons (.tup (.cons (.con (.int 2)) (.cons (.tup .nil) .nil))) .nil)) .nil))) (.cons (.con .none) .nil))))))))) (.cons (.set 1 (.bin .add (.var 1) (.lst false (.cons (.tup (.cons (.con (.int 2)) (.cons (.tup (.cons (.tup (.cons (.con (.int 0)) (.cons (.tup (.cons (.con (.int 1)) (.cons (.con (.int 1)) .nil))) .nil))) .nil)) .nil))) (.cons (.tup (.cons (.con (.int 2)) (.cons (.tup (.cons (.tup (.cons (.con (.int 0)) (.cons (.lst false (.cons (.con (.int 1)) .nil)) .nil))) .nil)) .nil))) (.cons (.tup (.cons (.con (.int 2)) (.cons (.tup (.cons (.lst false (.cons (.con (.int 0)) (.cons (.tup (.cons (.con (.int 1)) .nil)) .nil))) .nil)) .nil))) (.cons (.lst false (.cons (.con (.int 2)) (.cons (.tup (.cons (.tup (.cons (.con (.int 0)) (.cons (.tup .nil) .nil))) .nil)) .nil))) (.cons (.tup (.cons (.con (.int 2)) (.cons (.tup (.cons (.tup (.cons (.con (.int 0)) (.cons (.tup .nil) .nil))) .nil)) (.cons (.con (.int 1)) .nil)))) (.cons (.tup (.cons (.con (.int 2)) .nil)) .nil))))))))) (.cons (.set 1 (.bin .add (.var 1) (.lst false (.cons (.tup (.cons (.con (.int 3)) (.cons (.tup (.cons (.tup (.cons (.con (.int 0)) (.cons (.tup (.cons (.con (.int 2)) (.cons (.con (.int 1)) .nil))) .nil))) .nil)) .nil))) (.cons (.tup (.cons (.con (.bool true)) (.cons (.tup (.cons (.tup (.cons (.con (.int 0)) (.cons (.tup .nil) .nil))) .nil)) .nil))) (.cons (.tup (.cons (.con (.int 2)) (.cons (.tup (.cons (.tup (.cons (.con (.bool false)) (.cons (.tup .nil) .nil))) .nil)) .nil))) (.cons (.tup (.cons (.con (.int 2)) (.cons (.tup (.cons (.tup (.cons (.con (.int 0)) (.cons (.tup (.cons (.con (.bool true)) .nil)) .nil))) .nil)) .nil))) (.cons (.tup (.cons (.con (.int 1)) (.cons (.tup (.cons (.con (.int 0)) (.cons (.tup .nil) .nil))) .nil))) (.cons (.con (.int 3)) .nil))))))))) (.cons (.forS (.var 1) (.nm 0) (.cons (.ifS (.not (.call 9 (.cons (.call 4 (.cons (.var 0) .nil)) (.cons (.con (.bool false)) .nil)))) (.cons (.ret (.con (.bool false))) .nil) .nil) .nil)) (.cons (.forS (.tup (.cons (.tup .nil) (.cons (.bin .mul (.tup (.cons (.tup (.cons (.con (.int 0)) .nil)) .nil)) (.con (.int 8))) (.cons (.tup (.cons (.tup (.cons (.con (.int 0)) (.cons (.con (.int 1)) (.cons (.con (.int 2)) .nil)))) (.cons (.tup (.cons (.con (.int 0)) (.cons (.con (.int 1)) (.cons (.con (.int 2)) .nil)))) .nil))) .nil)))) (.nm 0) (.cons (.ifS (.not (.call 9 (.cons (.call 8 (.cons (.con (.int 3)) (.cons (.var 0) .nil))) (.cons (.con (.bool true)) .nil)))) (.cons (.ret (.con (.bool false))) .nil) .nil) .nil)) (.cons (.set 1 (.lst false (.cons (.bin .mul (.tup (.cons (.tup (.cons (.con (.int 0)) .nil)) .nil)) (.con (.int 9))) (.cons (.tup (.cons (.tup .nil) .nil)) (.cons (.tup (.cons (.tup (.cons (.con (.int 3)) .nil)) .nil)) (.cons (.tup (.cons (.tup (.cons (.con (.int 1)) (.cons (.con (.int 0)) .nil))) .nil)) (.cons (.tup (.cons (.tup (.cons (.con (.int 0)) (.cons (.con (.int 0)) .nil))) .nil)) (.cons (.lst false (.cons (.tup (.cons (.con (.int 0)) .nil)) .nil)) (.cons (.tup (.cons (.lst false (.cons (.con (.int 0)) .nil)) .nil)) (.cons (.tup (.cons (.con (.int 0)) .nil)) (.cons (.con .none) (.cons (.tup (.cons (.tup (.cons (.con (.bool true)) .nil)) .nil)) .nil)))))))))))) (.cons (.forS (.bin .add (.var 1) (.lst false (.cons (.tup (.cons (.tup (.cons (.un .neg (.con (.int 1))) .nil)) .nil)) .nil))) (.nm 0) (.cons (.ifS (.not (.call 9 (.cons (.call 8 (.cons (.con (.int 3)) (.cons (.var 0) .nil))) (.cons (.con (.bool false)) .nil)))) (.cons (.ret (.con (.bool false))) .nil) .nil) .nil)) (.cons (.ret (.con (.bool true))) .nil)))))))))
theorem ck__law_bounds : (chkS (G.at 15) c__law_bounds).l ⟨n__law_bounds, defScope s__law_bounds, fun _ => true⟩ (defBody s__law_bounds) = true := by decide +kernel
def n_law : List Str := ["script", "town", "k", "task", "messages_here", "receivers", "at", "want", "known", "odd", "code"]
theorem sc_law : FnScope n_law ["script"] (defScope s_law) := ⟨rfl, rfl, rfl, by decide +kernel, rfl, by decide +kernel, by decide +kernel⟩
def c_law : CS := (.cons (.set 1 (.call 11 .nil)) (.cons (.forS (.rng1 (.con (.int 5))) (.nm 2) (.cons (.set 3 (.call 12 (.cons (.var 0) (.cons (.var 1) (.cons (.con (.int 6)) (.cons (.con (.int 6)) .nil)))))) (.cons (.pat (.cons (.nm 4) (.cons (.nm 5) .nil)) (.var 3)) (.cons (.ifS (.or (.not (.call 9 (.cons (.callK 4 0 .nil (.cons (.var 3) .nil)) (.cons (.con (.bool true)) .nil)))) (.not (.call 9 (.cons (.call 4 (.cons (.lst false (.cons (.var 4) (.cons (.var 5) .nil))) .nil)) (.cons (.con (.bool false)) .nil))))) (.cons (.ret (.con (.bool false))) .nil) .nil) (.cons (.set 6 (.call 10 (.cons (.var 0) (.cons (.var 1) (.cons (.blt .len (.cons (.var 5) .nil)) .nil))))) (.cons (.pat (.cons (.nm 7) (.cons (.nm 8) .nil)) (.bin .ix (.var 5) (.var 6))) (.cons (.forS (.tup (.cons (.tup (.cons (.var 7) (.cons (.bin .add (.var 8) (.tup (.cons (.var 4) .nil))) .nil))) (.cons (.tup (.cons (.var 7) (.cons (.bin .add (.var 8) (.tup (.cons (.var 7) .nil))) .nil))) (.cons (.tup (.cons (.var 4) (.cons (.var 8) .nil))) (.cons (.tup (.cons (.var 7) .nil)) (.cons (.con .none) .nil)))))) (.nm 9) (.cons (.ifS (.not (.call 9 (.cons (.call 4 (.cons (.tup (.cons (.var 4) (.cons (.bin .add (.bin .add (.sl (.var 5) .no (.var 6)) (.tup (.cons (.var 9) .nil))) (.sl (.var 5) (.bin .add (.var 6) (.con (.int 1))) .no)) .nil))) .nil)) (.cons (.con (.bool false)) .nil)))) (.cons (.ret (.con (.bool false))) .nil) .nil) .nil)) (.cons (.set 10 (.call 14 (.cons (.var 0) (.cons (.var 1) (.cons (.var 4) (.cons (.con (.int 6)) .nil)))))) (.cons (.ifS (.not (.call 9 (.cons (.callK 8 0 .nil (.cons (.var 4) (.cons (.var 10) .nil))) (.cons (.con (.bool true)) .nil)))) (.cons (.ret (.con (.bool false))) .nil) .nil) (.cons (.ifS (.not (.call 9 (.cons (.call 8 (.cons (.var 4) (.cons (.blt .lst (.cons (.var 10) .nil)) .nil))) (.cons (.con (.bool false)) .nil)))) (.cons (.ret (.con (.bool false))) .nil) .nil) (.cons (.forS (.tup (.cons (.tup .nil) (.cons (.tup (.cons (.var 4) .nil)) (.cons (.con .none) (.cons (.con (.int 0)) (.cons (.lst false (.cons (.con (.int 0)) .nil)) (.cons (.con (.str "0")) (.cons (.tup (.cons (.con (.str "0")) .nil)) .nil)))))))) (.nm 9) (.cons (.ifS (.not (.call 9 (.cons (.call 8 (.cons (.var 4) (.cons (.bin .add (.var 10) (.tup (.cons (.var 9) .nil))) .nil))) (.cons (.con (.bool false)) .nil)))) (.cons (.ret (.con (.bool false))) .nil) .nil) .nil)) .nil))))))))))) (.cons (.ret (.call 15 .nil)) .nil)))
theorem ck_law : (chkS (G.at 16) c_law).l ⟨n_law, defScope s_law, fun _ => true⟩ (defBody s_law) = true := by decide +kernel
section
variable {P : Program} {w : World} {K : PySem.W.Frag} {mg : Str → Option Value} {base : Heap}
def n__law_draw : List Str := ["script", "town", "many", "at", "rest", "number"]
theorem sc__law_draw : FnScope n__law_draw ["script", "town", "many"] (defScope s__law_draw) := ⟨rfl, rfl, rfl, by decide +kernel, rfl, by decide +kernel, by decide +kernel⟩
theorem ok__law_draw {cx : Nat → Value} {sa : Addr} {ns : List Int} (hns : ns.length ≤ 63) {f : Addr} {fd : FuncData} (Fn : FunD K "_law_draw" "_law_draw" (defArgs s__law_draw) (defBody s__law_draw) (defScope s__law_draw) [] [] f fd) (ml : mg "len" = none) : FnOk P w K mg base (L2.CX P w) 1 f fd ["script", "town", "many"] (spOf (Wd K sa ns) cx 3 (spDraw sa)) := by
  refine Fn.ok sc__law_draw (fun vs H Q E h => ?_) fun cdv A outer s H vs Q E hr h => ?_
  · obtain ⟨F, M, ω, ds, Qc, Ec, hw, r, hl, _⟩ := h
    have := Paired.length r
    rw [hl] at this
    exact this
  · obtain ⟨F, M, ω, ds, Qc, Ec, hw, r, hl, ⟨t, many, rfl, rfl, hm0, hm1, kd⟩, kq, _⟩ := h
    have hu := hu_of hr
    obtain ⟨v1, v2, v3, rfl, r1, r2, r3⟩ : ∃ v1 v2 v3, vs = [v1, v2, v3] ∧ v1 = .ref sa ∧ v2 = .ref t ∧ v3 = .int many := by
      cases r with
      | cons a b =>
        cases b with
        | cons b c =>
          cases c with
          | cons c d => cases d; exact ⟨_, _, _, rfl, a, b, rp_int c⟩
    subst r1 r2 r3
    obtain ⟨hS, r, c, kvs, ht, hrr, hrt, hk⟩ := hw.w
    have nd := sc__law_draw.nd
    refine ⟨_, pss_cons (ps_dput hu (pv 1) pe_str (pe_op op_add (pe_dget hu (pv 1) pe_str (fun _ _ => rfl)) pe_int) rfl)
      (pss_cons (ps_set (i := 3) nd rfl (.inl rfl) (pe_ifExp (pt_truth (pv 0) (by intro _; rfl)) (pe_op op_mod (pe_dget hu (pv 1) pe_str (fun _ _ => rfl)) (pe_callB call_len_seq (by rfl) ml PySem.boot_len (pa_cons (pv 0) pa_nil))) pe_int))
      (pss_cons (ps_set (i := 4) nd rfl (.inl rfl) (pe_dget2 hu (pe_dget hu (pv 1) pe_str (fun _ _ => rfl)) (pv 3) (pe_ifExp (pt_truth (pv 0) (by intro _; rfl)) (pe_ix ix_list (pv 0) (pv 3) (fun _ _ => rfl)) pe_int) ⟨rfl, rfl, rfl, rfl⟩))
      (pss_cons (ps_if (pt_cmpR op_ge (pv 4) (pe_op op_pow pe_int pe_int) (nomark _)) (pss_cons (ps_dput hu (pe_dget hu (pv 1) pe_str (fun _ _ => rfl)) (pv 3) (pe_op op_fdiv (pv 4) (pv 2)) rfl) (pss_one (ps_ret (pe_op op_mod (pv 4) (pv 2))))) pss_nil)
      (pss_cons (ps_set (i := 5) nd rfl (.inl rfl) (pe_op op_mod (pe_op op_add (pv 4) (pe_op op_mul pe_int (pe_dget hu (pv 1) pe_str (fun _ _ => rfl)))) pe_int))
      (pss_cons (ps_set (i := 5) nd rfl (.inl rfl) (pe_op op_mod (pe_op op_pow (pv 5) pe_int) pe_int))
      (pss_one (ps_ret (pe_op op_mod (pe_op op_fdiv (pe_op op_mod (pe_op op_add (pe_op op_mul (pe_op op_fdiv (pv 5) pe_int) pe_int) (pv 5)) pe_int) pe_int) (pv 2))))))))), ?_⟩
    -- town['count'] = town['count'] + 1
    have Ht : H t = some (townD c r) := hw.mh _ _ ht
    obtain ⟨g1, g2, g3, gx⟩ := world_upd (o := townD (c + 1) r) hw.fh hw.mh hw.fm ht
    have M1r : upd M t (townD (c + 1) r) r = some (.dK kvs) := by rw [upd_ne hrt]; exact hrr
    have H1r : upd H t (townD (c + 1) r) r = some (.dK kvs) := g2 _ _ M1r
    have H1t : upd H t (townD (c + 1) r) t = some (townD (c + 1) r) := upd_same
    have H1S : SqL K (upd H t (townD (c + 1) r)) sa (ns.map V.int) := sqL_mono g2 (sqL_upd hS ht)
    refine ⟨_, rfl, t, _, rfl, DGet.k (k := Sum.inr ("count" : Str)) Ht, _, _, rfl, rfl, _, rfl, t, _, rfl, DPut.k (k := Sum.inr ("count" : Str)) Ht (by show 2 < sizeLine; rw [sizeLine_eq]; decide), ?_⟩
    rw [town_put]
    rw [show HO.dK [((Sum.inr ("count" : Str) : Key), V.int (c + 1)), (Sum.inr ("rests" : Str), V.ref r)] = townD (c + 1) r from rfl]
    by_cases h0 : ns = []
    · -- an empty script
      refine ⟨_, rfl, false, .inl ⟨_, H1S, by rw [h0]; rfl⟩, iteF ?_⟩
      refine ⟨_, rfl, t, _, rfl, DGet.k (k := Sum.inr ("rests" : Str)) H1t, r, rfl, .inl ⟨kvs, .inl H1r⟩, _, rfl, _, rfl, false, .inl ⟨_, H1S, by rw [h0]; rfl⟩, iteF ⟨_, DGet.k (k := Sum.inl 0) H1r, ?_⟩⟩
      obtain ⟨rest, hrest⟩ : ∃ i, (valV kvs (Sum.inl 0 : Key)).getD (V.int 0) = V.int i := by
        cases e : valV kvs (Sum.inl 0 : Key) with
        | none => exact ⟨0, rfl⟩
        | some v => obtain ⟨i, rfl⟩ := hk.val e; exact ⟨i, rfl⟩
      rw [hrest]
      refine ⟨_, rfl, _, _, rfl, rfl, ⟨by decide, by decide, by decide⟩, rest, _, rfl, rfl, _, rfl, ?_⟩
      refine ite2 (fun _ => ?_) (fun _ => ?_)
      · -- a great cell: its digits
        obtain ⟨k1, k2, k3, kx⟩ := world_upd (o := .dK (putK kvs (Sum.inl 0) (.int (rest / many)))) g1 g2 g3 M1r
        refine ⟨_, rfl, _, rfl, _, _, rfl, rfl, ⟨hm0, by omega⟩, _, rfl, t, _, rfl, DGet.k (k := Sum.inr ("rests" : Str)) H1t, _, rfl, r, _, rfl, DPut.k (k := Sum.inl 0) H1r (by have := hk.len; rw [sizeLine_eq]; omega), ?_⟩
        refine ⟨_, rfl, _, rfl, _, _, rfl, rfl, hm0, ?_⟩
        refine kq _ _ _ _ F (upd (upd M t (townD (c + 1) r)) r (.dK (putK kvs (Sum.inl 0) (.int (rest / many))))) (kd (rest % many) (Int.emod_nonneg _ (by omega)) (Int.emod_lt_of_pos _ hm0)) ⟨k1, k2, k3, sqL_upd (sqL_upd hS ht) M1r, r, c + 1, _, by rw [upd_ne (Ne.symm hrt), upd_same], upd_same, hrt, hk.put (by decide) (by decide)⟩ (gx.trans kx) (.int _)
      · -- mixed of a cell
        refine ⟨_, rfl, _, rfl, t, _, rfl, DGet.k (k := Sum.inr ("count" : Str)) H1t, _, _, rfl, rfl, .inl ⟨by decide, by decide⟩, _, _, rfl, rfl, _, _, rfl, rfl, (by show (0 : Int) < _; decide), ?_⟩
        have b1 : 0 ≤ (rest + 104729 * (c + 1)) % 4294967291 := Int.emod_nonneg _ (by decide)
        have b2 : (rest + 104729 * (c + 1)) % 4294967291 < 4294967291 := Int.emod_lt_of_pos _ (by decide)
        refine ⟨_, rfl, _, _, rfl, rfl, ⟨by decide, by decide, by omega⟩, _, _, rfl, rfl, (by show (0 : Int) < _; decide), ?_⟩
        have b3 : 0 ≤ ((rest + 104729 * (c + 1)) % 4294967291) ^ (5 : Int).toNat % 4294967279 := Int.emod_nonneg _ (by decide)
        have b4 : ((rest + 104729 * (c + 1)) % 4294967291) ^ (5 : Int).toNat % 4294967279 < 4294967279 := Int.emod_lt_of_pos _ (by decide)
        refine ⟨_, rfl, _, _, rfl, rfl, ⟨by decide, by decide⟩, _, _, rfl, rfl, .inr ⟨by decide, by decide⟩, _, rfl, _, _, rfl, rfl, _, _, rfl, rfl, (by show (0 : Int) < _; decide), _, _, rfl, rfl, ⟨by decide, by decide⟩, _, rfl, _, _, rfl, rfl, hm0, ?_⟩
        exact kq _ _ _ _ F (upd M t (townD (c + 1) r)) (kd _ (Int.emod_nonneg _ (by omega)) (Int.emod_lt_of_pos _ hm0)) ⟨g1, g2, g3, sqL_upd hS ht, r, c + 1, kvs, upd_same, M1r, hrt, hk⟩ gx (.int _)
    · have hl0 : 0 < ns.length := List.length_pos_iff.mpr h0
      have ht0 : (!(ns.map V.int).isEmpty) = true := by cases ns with | nil => exact absurd rfl h0 | cons _ _ => rfl
      refine ⟨_, rfl, true, .inl ⟨_, H1S, ht0.symm⟩, iteT ?_⟩
      refine ⟨_, rfl, t, _, rfl, DGet.k (k := Sum.inr ("count" : Str)) H1t, _, rfl, sa, _, rfl, .inl H1S, _, _, rfl, rfl, by simp; omega, ?_⟩
      have c0 : 0 ≤ (c + 1) % ((ns.map V.int).length : Int) := Int.emod_nonneg _ (by simp; omega)
      have c1 : (c + 1) % ((ns.map V.int).length : Int) < ns.length := by
        have := Int.emod_lt_of_pos (c + 1) (b := ((ns.map V.int).length : Int)) (by simp; omega)
        simpa using this
      have ha0 : 0 ≤ ((c + 1) % ((ns.map V.int).length : Int)) := c0
      have ha1 : ((c + 1) % ((ns.map V.int).length : Int)) < 63 := by omega
      have hlt : ((c + 1) % ((ns.map V.int).length : Int)).toNat < ns.length := by omega
      have hat : atI (ns.map V.int) ((c + 1) % ((ns.map V.int).length : Int)) = some (V.int ns[((c + 1) % ((ns.map V.int).length : Int)).toNat]) := by
        have := atI_nat (xs := ns.map V.int) (j := ((c + 1) % ((ns.map V.int).length : Int)).toNat) (v := V.int ns[((c + 1) % ((ns.map V.int).length : Int)).toNat]) (by rw [List.getElem?_map, List.getElem?_eq_getElem hlt]; rfl)
        rwa [Int.toNat_of_nonneg ha0] at this
      refine ⟨_, rfl, t, _, rfl, DGet.k (k := Sum.inr ("rests" : Str)) H1t, r, rfl, .inl ⟨kvs, .inl H1r⟩, _, rfl, _, rfl, true, .inl ⟨_, H1S, ht0.symm⟩, iteT ⟨_, rfl, _, rfl, sa, _, _, _, rfl, rfl, H1S, hat, _, DGet.k (k := Sum.inl ((c + 1) % ((ns.map V.int).length : Int))) H1r, ?_⟩⟩
      generalize ns[((c + 1) % ((ns.map V.int).length : Int)).toNat] = z
      obtain ⟨rest, hrest⟩ : ∃ i, (valV kvs (Sum.inl ((c + 1) % ((ns.map V.int).length : Int)) : Key)).getD (V.int z) = V.int i := by
        cases e : valV kvs (Sum.inl ((c + 1) % ((ns.map V.int).length : Int)) : Key) with
        | none => exact ⟨z, rfl⟩
        | some v => obtain ⟨i, rfl⟩ := hk.val e; exact ⟨i, rfl⟩
      rw [hrest]
      refine ⟨_, rfl, _, _, rfl, rfl, ⟨by decide, by decide, by decide⟩, rest, _, rfl, rfl, _, rfl, ?_⟩
      refine ite2 (fun _ => ?_) (fun _ => ?_)
      · -- a great cell: its digits
        obtain ⟨k1, k2, k3, kx⟩ := world_upd (o := .dK (putK kvs (Sum.inl ((c + 1) % ((ns.map V.int).length : Int))) (.int (rest / many)))) g1 g2 g3 M1r
        refine ⟨_, rfl, _, rfl, _, _, rfl, rfl, ⟨hm0, by omega⟩, _, rfl, t, _, rfl, DGet.k (k := Sum.inr ("rests" : Str)) H1t, _, rfl, r, _, rfl, DPut.k (k := Sum.inl ((c + 1) % ((ns.map V.int).length : Int))) H1r (by have := hk.len; rw [sizeLine_eq]; omega), ?_⟩
        refine ⟨_, rfl, _, rfl, _, _, rfl, rfl, hm0, ?_⟩
        refine kq _ _ _ _ F (upd (upd M t (townD (c + 1) r)) r (.dK (putK kvs (Sum.inl ((c + 1) % ((ns.map V.int).length : Int))) (.int (rest / many))))) (kd (rest % many) (Int.emod_nonneg _ (by omega)) (Int.emod_lt_of_pos _ hm0)) ⟨k1, k2, k3, sqL_upd (sqL_upd hS ht) M1r, r, c + 1, _, by rw [upd_ne (Ne.symm hrt), upd_same], upd_same, hrt, hk.put ha0 ha1⟩ (gx.trans kx) (.int _)
      · -- mixed of a cell
        refine ⟨_, rfl, _, rfl, t, _, rfl, DGet.k (k := Sum.inr ("count" : Str)) H1t, _, _, rfl, rfl, .inl ⟨by decide, by decide⟩, _, _, rfl, rfl, _, _, rfl, rfl, (by show (0 : Int) < _; decide), ?_⟩
        have b1 : 0 ≤ (rest + 104729 * (c + 1)) % 4294967291 := Int.emod_nonneg _ (by decide)
        have b2 : (rest + 104729 * (c + 1)) % 4294967291 < 4294967291 := Int.emod_lt_of_pos _ (by decide)
        refine ⟨_, rfl, _, _, rfl, rfl, ⟨by decide, by decide, by omega⟩, _, _, rfl, rfl, (by show (0 : Int) < _; decide), ?_⟩
        have b3 : 0 ≤ ((rest + 104729 * (c + 1)) % 4294967291) ^ (5 : Int).toNat % 4294967279 := Int.emod_nonneg _ (by decide)
        have b4 : ((rest + 104729 * (c + 1)) % 4294967291) ^ (5 : Int).toNat % 4294967279 < 4294967279 := Int.emod_lt_of_pos _ (by decide)
        refine ⟨_, rfl, _, _, rfl, rfl, ⟨by decide, by decide⟩, _, _, rfl, rfl, .inr ⟨by decide, by decide⟩, _, rfl, _, _, rfl, rfl, _, _, rfl, rfl, (by show (0 : Int) < _; decide), _, _, rfl, rfl, ⟨by decide, by decide⟩, _, rfl, _, _, rfl, rfl, hm0, ?_⟩
        exact kq _ _ _ _ F (upd M t (townD (c + 1) r)) (kd _ (Int.emod_nonneg _ (by omega)) (Int.emod_lt_of_pos _ hm0)) ⟨g1, g2, g3, sqL_upd hS ht, r, c + 1, kvs, upd_same, M1r, hrt, hk⟩ gx (.int _)
/-- _law_begun -/
def n__law_begun : List Str := []
theorem sc__law_begun : FnScope n__law_begun [] (defScope s__law_begun) := ⟨rfl, rfl, rfl, by decide +kernel, rfl, by decide +kernel, by decide +kernel⟩
theorem ok__law_begun {cx : Nat → Value} {sa : Addr} {ns : List Int} {f : Addr} {fd : FuncData} (Fn : FunD K "_law_begun" "_law_begun" (defArgs s__law_begun) (defBody s__law_begun) (defScope s__law_begun) [] [] f fd) : FnOk P w K mg base (L2.CX P w) 1 f fd [] (spOf (Wd K sa ns) cx 0 spBegun) := by
  refine Fn.ok sc__law_begun (fun vs H Q E h => ?_) fun cdv A outer s H vs Q E hr h => ?_
  · obtain ⟨F, M, ω, ds, Qc, Ec, hw, r, hl, _⟩ := h
    have := Paired.length r
    rw [hl] at this
    exact this
  · obtain ⟨F, M, ω, ds, Qc, Ec, hw, r, hl, ⟨rfl, rfl, kd⟩, kq, _⟩ := h
    cases r
    refine ⟨_, pss_one (ps_ret (pe_disp (pps_cons pe_str pe_int (pps_cons pe_str pe_dnewK pps_nil)) (by rfl) (by rfl) (fun z => by cases z) (by decide))), ?_⟩
    intro p np r nr
    have rp : r ≠ p := fun z => by rw [z, upd_same] at nr; cases nr
    obtain ⟨b1, b2⟩ := begun_new hw np nr
    exact ⟨(upd_ne (Ne.symm rp)).trans upd_same, [(Sum.inr "count", .int 0), (Sum.inr "rests", .ref r)], rfl, Nat.le_of_ble_eq_true rfl, kq _ _ _ _ _ _ (kd p) b1 b2 rfl⟩
end
def δ (sa : Addr) : Den (Option Addr) := { fns := [(3, spF f_is_between), (1, spF f_is_ascending), (2, spF f_are_messages), (2, spF f_is_receiver), (1, spF f_is_task), (1, spF f_check_messages), (2, spF f_is_sum), (2, spF f_is_code_of), (2, spF f_is_code), (2, spF f__law_is), (3, spDraw sa), (0, spBegun), (4, spTask sa), (3, spSum sa), (4, spCode sa), (0, spF f__law_bounds), (1, spLaw sa)], cns := [6, 8] }
section
variable {sa : Addr}
@[simp] theorem fn_0 (a : TDa (Option Addr)) : dFn (δ sa) 0 a = dCallN 3 (spF f_is_between) a := rfl
@[simp] theorem fn_1 (a : TDa (Option Addr)) : dFn (δ sa) 1 a = dCallN 1 (spF f_is_ascending) a := rfl
@[simp] theorem fn_2 (a : TDa (Option Addr)) : dFn (δ sa) 2 a = dCallN 2 (spF f_are_messages) a := rfl
@[simp] theorem fn_3 (a : TDa (Option Addr)) : dFn (δ sa) 3 a = dCallN 2 (spF f_is_receiver) a := rfl
@[simp] theorem fn_4 (a : TDa (Option Addr)) : dFn (δ sa) 4 a = dCallN 1 (spF f_is_task) a := rfl
@[simp] theorem fk_4 (n : Nat) (a b : TDa (Option Addr)) : dFnK (δ sa) 4 n a b = dCallK n 1 (spF f_is_task) a b := rfl
@[simp] theorem fn_5 (a : TDa (Option Addr)) : dFn (δ sa) 5 a = dCallN 1 (spF f_check_messages) a := rfl
@[simp] theorem fn_6 (a : TDa (Option Addr)) : dFn (δ sa) 6 a = dCallN 2 (spF f_is_sum) a := rfl
@[simp] theorem fn_7 (a : TDa (Option Addr)) : dFn (δ sa) 7 a = dCallN 2 (spF f_is_code_of) a := rfl
@[simp] theorem fn_8 (a : TDa (Option Addr)) : dFn (δ sa) 8 a = dCallN 2 (spF f_is_code) a := rfl
@[simp] theorem fk_8 (n : Nat) (a b : TDa (Option Addr)) : dFnK (δ sa) 8 n a b = dCallK n 2 (spF f_is_code) a b := rfl
@[simp] theorem fn_9 (a : TDa (Option Addr)) : dFn (δ sa) 9 a = dCallN 2 (spF f__law_is) a := rfl
@[simp] theorem fn_10 (a : TDa (Option Addr)) : dFn (δ sa) 10 a = dCallN 3 (spDraw sa) a := rfl
@[simp] theorem fn_11 (a : TDa (Option Addr)) : dFn (δ sa) 11 a = dCallN 0 (spBegun) a := rfl
@[simp] theorem fn_12 (a : TDa (Option Addr)) : dFn (δ sa) 12 a = dCallN 4 (spTask sa) a := rfl
@[simp] theorem fn_13 (a : TDa (Option Addr)) : dFn (δ sa) 13 a = dCallN 3 (spSum sa) a := rfl
@[simp] theorem fn_14 (a : TDa (Option Addr)) : dFn (δ sa) 14 a = dCallN 4 (spCode sa) a := rfl
@[simp] theorem fn_15 (a : TDa (Option Addr)) : dFn (δ sa) 15 a = dCallN 0 (spF f__law_bounds) a := rfl
@[simp] theorem fn_16 (a : TDa (Option Addr)) : dFn (δ sa) 16 a = dCallN 1 (spLaw sa) a := rfl
@[simp] theorem gl_0 : dGlo (δ sa) 0 = dCon (.int 6) := rfl
@[simp] theorem gl_1 : dGlo (δ sa) 1 = dCon (.int 8) := rfl
end
end L01
namespace L01
open PySem PySem.Spec PyProof.Rows L2 Q
section
variable {sa : Addr}
theorem rd_is_between : ∀ ds (ω : Option Addr) Qc Ec, ds.length = 3 → spF f_is_between ds ω Qc Ec → denS (δ sa) c_is_between Ec ⟨fun _ ω' => Qc (.d .none) ω', Qc, fun _ _ => False, fun _ _ => False⟩ (startE n_is_between ds) ω := by
  intro ds ω Qc Ec hl ⟨r, h, q⟩
  unfold f_is_between at h
  split at h
  · next v lo hi =>
    cases h
    cases v <;> simp [c_is_between, denS, den, startE, n_is_between, isaT, btw] at q ⊢ <;> try exact q
    next i => by_cases a : lo ≤ i <;> simp [a] at q ⊢ <;> exact q
  · cases h
theorem rd_is_ascending : ∀ ds (ω : Option Addr) Qc Ec, ds.length = 1 → spF f_is_ascending ds ω Qc Ec → denS (δ sa) c_is_ascending Ec ⟨fun _ ω' => Qc (.d .none) ω', Qc, fun _ _ => False, fun _ _ => False⟩ (startE n_is_ascending ds) ω := by
  intro ds ω Qc Ec hl ⟨r, h, q⟩
  unfold f_is_ascending at h
  split at h
  · next xs =>
    split at h
    · next hi =>
      cases h
      simp [c_is_ascending, denS, den, startE, n_is_ascending, cutD_1]
      refine compL_map (fun p => .bool (lt2 p)) (fun x hx => ?_) ?_
      · obtain ⟨a, b, e⟩ := zip_ints hi x (by simpa using hx)
        subst e
        exact ⟨_, by simp; rfl, fun R r => by simpa [lt2] using r⟩
      · simpa [asc] using q
    · cases h
  · cases h
theorem rd_are_messages : ∀ ds (ω : Option Addr) Qc Ec, ds.length = 2 → spF f_are_messages ds ω Qc Ec → denS (δ sa) c_are_messages Ec ⟨fun _ ω' => Qc (.d .none) ω', Qc, fun _ _ => False, fun _ _ => False⟩ (startE n_are_messages ds) ω := by
  intro ds ω Qc Ec hl ⟨r, h, q⟩
  unfold f_are_messages at h
  split at h
  · next m v =>
    cases h
    cases v <;> simp [c_are_messages, denS, den, startE, n_are_messages, isaT, areM] at q ⊢ <;> try exact q
    next xs =>
    refine compL_map (fun x => .bool (btw x 0 (m - 1))) (fun x hx => ⟨_, by simp; rfl, fun R r => by simpa [spF, f_is_between] using r⟩) ?_
    by_cases a : xs.all (fun x => btw x 0 (m - 1)) = true
    · simp [a] at q ⊢
      exact ⟨_, ⟨fun x hx => btw_isI (List.all_eq_true.mp a x hx), rfl⟩, q⟩
    · simp [a] at q ⊢
      exact q
  · cases h
theorem rd_is_receiver : ∀ ds (ω : Option Addr) Qc Ec, ds.length = 2 → spF f_is_receiver ds ω Qc Ec → denS (δ sa) c_is_receiver Ec ⟨fun _ ω' => Qc (.d .none) ω', Qc, fun _ _ => False, fun _ _ => False⟩ (startE n_is_receiver ds) ω := by
  intro ds ω Qc Ec hl ⟨r, h, q⟩
  unfold f_is_receiver at h
  split at h
  · next m v =>
    cases h
    cases v <;> simp [c_is_receiver, denS, den, startE, n_is_receiver, isaT, isRecv] at q ⊢ <;> try exact q
    next xs =>
    rcases xs with _ | ⟨w, _ | ⟨k, _ | ⟨u, xs⟩⟩⟩ <;> simp at q ⊢
    · exact q
    · exact q
    · by_cases a : btw w 0 (m - 1) = true <;> simp [a] at q ⊢
      · by_cases b : areM m k = true <;> simp [b] at q ⊢
        · obtain ⟨ks, rfl, _⟩ := areM_tup b
          obtain ⟨i, rfl, _⟩ := btw_int a
          simpa [memT] using q
        · exact q
      · exact q
    · rw [if_neg (by omega)]; exact q
  · cases h
theorem rd_is_task : ∀ ds (ω : Option Addr) Qc Ec, ds.length = 1 → spF f_is_task ds ω Qc Ec → denS (δ sa) c_is_task Ec ⟨fun _ ω' => Qc (.d .none) ω', Qc, fun _ _ => False, fun _ _ => False⟩ (startE n_is_task ds) ω := by
  intro ds ω Qc Ec hl ⟨r, h, q⟩
  unfold f_is_task at h
  split at h
  · next v =>
    cases h
    cases v <;> simp [c_is_task, denS, den, startE, n_is_task, isaT, isTask] at q ⊢ <;> try exact q
    next xs =>
    rcases xs with _ | ⟨w, _ | ⟨k, _ | ⟨u, xs⟩⟩⟩ <;> simp at q ⊢
    · exact q
    · exact q
    · by_cases a : btw w 1 6 = true
      · obtain ⟨m, rfl, h1, h2⟩ := btw_int a
        simp only [a, Bool.true_and] at q
        simp [a]
        cases k <;> simp [isaT, recvs] at q ⊢ <;> try exact q
        next rs =>
        by_cases b1 : 1 ≤ rs.length
        · rw [if_pos (by omega)]
          by_cases b2 : rs.length ≤ 6
          · rw [if_pos (by omega)]
            refine compL_map (fun x => .bool (isRecv m x)) (fun x hx => ⟨_, by simp; rfl, fun R r => by simpa using r⟩) ?_
            simpa [b1, b2] using q
          · rw [if_neg (by omega)]
            simpa [b1, b2] using q
        · rw [if_neg (by omega)]
          simpa [b1] using q
      · simp [a] at q ⊢
        exact q
    · rw [if_neg (by omega)]; exact q
  · cases h
theorem rd_check_messages : ∀ ds (ω : Option Addr) Qc Ec, ds.length = 1 → spF f_check_messages ds ω Qc Ec → denS (δ sa) c_check_messages Ec ⟨fun _ ω' => Qc (.d .none) ω', Qc, fun _ _ => False, fun _ _ => False⟩ (startE n_check_messages ds) ω := by
  intro ds ω Qc Ec hl ⟨r, h, q⟩
  unfold f_check_messages at h
  split at h
  · next v =>
    split at h
    · next a =>
      cases h
      simp [c_check_messages, denS, den, startE, n_check_messages, a]
      exact q
    · cases h
  · cases h
theorem rd_is_sum : ∀ ds (ω : Option Addr) Qc Ec, ds.length = 2 → spF f_is_sum ds ω Qc Ec → denS (δ sa) c_is_sum Ec ⟨fun _ ω' => Qc (.d .none) ω', Qc, fun _ _ => False, fun _ _ => False⟩ (startE n_is_sum ds) ω := by
  intro ds ω Qc Ec hl ⟨r, h, q⟩
  unfold f_is_sum at h
  split at h
  · next m v =>
    cases h
    simp [c_is_sum, denS, den, startE, n_is_sum]
    by_cases b : areM m v = true <;> simp [b, isSum, PyData.depth, PyData.depthAll] at q ⊢
    · exact ⟨by omega, q⟩
    · exact q
  · cases h
theorem rd_is_code_of : ∀ ds (ω : Option Addr) Qc Ec, ds.length = 2 → spF f_is_code_of ds ω Qc Ec → denS (δ sa) c_is_code_of Ec ⟨fun _ ω' => Qc (.d .none) ω', Qc, fun _ _ => False, fun _ _ => False⟩ (startE n_is_code_of ds) ω := by
  intro ds ω Qc Ec hl ⟨r, h, q⟩
  unfold f_is_code_of at h
  split at h
  · next m v =>
    cases h
    cases v <;> simp [c_is_code_of, denS, den, startE, n_is_code_of, isaT, isCode] at q ⊢ <;> try exact q
    next xs =>
    by_cases a : xs.length ≤ 8
    · rw [if_pos (by omega)]
      refine compL_map (fun x => .bool (isSum m x)) (fun x hx => ⟨_, by simp; rfl, fun R r => by simpa using r⟩) ?_
      simpa [a] using q
    · rw [if_neg (by omega)]
      simpa [a] using q
  · cases h
theorem rd_is_code : ∀ ds (ω : Option Addr) Qc Ec, ds.length = 2 → spF f_is_code ds ω Qc Ec → denS (δ sa) c_is_code Ec ⟨fun _ ω' => Qc (.d .none) ω', Qc, fun _ _ => False, fun _ _ => False⟩ (startE n_is_code ds) ω := by
  intro ds ω Qc Ec hl ⟨r, h, q⟩
  unfold f_is_code at h
  split at h
  · next m v =>
    split at h
    · next a =>
      cases h
      simp [c_is_code, denS, den, startE, n_is_code, a]
      exact q
    · cases h
  · cases h
theorem rd__law_is : ∀ ds (ω : Option Addr) Qc Ec, ds.length = 2 → spF f__law_is ds ω Qc Ec → denS (δ sa) c__law_is Ec ⟨fun _ ω' => Qc (.d .none) ω', Qc, fun _ _ => False, fun _ _ => False⟩ (startE n__law_is ds) ω := by
  intro ds ω Qc Ec hl ⟨r, h, q⟩
  unfold f__law_is at h
  split at h
  · next a b =>
    cases h
    simp [c__law_is, denS, den, startE, n__law_is, isaT]
    cases a <;> cases b <;> exact q
  · cases h
theorem rd__law_task : ∀ ds (ω : Option Addr) Qc Ec, ds.length = 4 → spTask sa ds ω Qc Ec → denS (δ sa) c__law_task Ec ⟨fun _ ω' => Qc (.d .none) ω', Qc, fun _ _ => False, fun _ _ => False⟩ (startE n__law_task ds) ω := by
  rintro ds ω Qc Ec hl ⟨t, most, many, rfl, rfl, a1, a2, b1, b2, q⟩
  simp [c__law_task, denS, den, startE, n__law_task]
  refine ⟨by omega, by omega, fun total t0 t1 => ⟨by omega, by omega, fun cnt c0 c1 => ⟨by omega, ?_⟩⟩⟩
  refine forL_ind (I := fun xs env ω => ω = some t ∧ ∃ (rs : List Rc) (s6 s7 s8 s9 : S), env = [.r (.ref sa), .r (.ref t), .d (.int most), .d (.int many), .d (.int (1 + total)), .own (rs.map rcD), s6, s7, s8, s9] ∧ rs.length + xs.length = (1 + cnt).toNat ∧ ∀ r ∈ rs, RcOk (1 + total) r) ?_ ?_ _ _ _ ⟨rfl, [], _, _, _, _, rfl, by simp [rngD], by simp⟩
  · rintro env ω ⟨rfl, rs, s6, s7, s8, s9, rfl, hl, ok⟩
    simp at hl ⊢
    refine q (1 + total) rs ⟨by omega, by omega, by omega, by omega, ok⟩ (by omega) (by omega)
  · rintro x xs env ω ih ⟨rfl, rs, s6, s7, s8, s9, rfl, hl, ok⟩
    rw [forL_cons]
    simp at hl ⊢
    refine ⟨by omega, by omega, fun want w0 w1 => ⟨by omega, ?_⟩⟩
    refine compL_any (by simp) (fun x hx R hR => by simp; exact fun _ _ _ => hR _) fun zs sz => ?_
    obtain ⟨is, rfl, mo⟩ := sub_rng sz
    simp
    refine compL_pure (fun x => !PyData.eqv x (.int want)) id (fun x hx => ⟨_, by simp; rfl, fun R r => ?_, fun _ R r => by simpa using r⟩) ?_
    · obtain ⟨i, hi, rfl⟩ := List.mem_map.mp hx
      simpa using r
    · refine ⟨by omega, ih _ _ ⟨rfl, rs ++ [(want, is.filter fun i => decide (i ≠ want))], .d x, .d (.int want), .d (.list (iL is)), s9, ?_, by simp; omega, fun r hr => ?_⟩⟩
      · rw [List.nil_append, filt_ne, List.map_append]
        rfl
      · rcases List.mem_append.mp hr with z | z
        · exact ok r z
        · rw [List.mem_singleton.mp z]
          rw [show (((1 + total).toNat : Nat) : Int) = 1 + total by omega] at mo
          exact ⟨w0, w1, mo.sub List.filter_sublist, by simp⟩
theorem rd__law_sum : ∀ ds (ω : Option Addr) Qc Ec, ds.length = 3 → spSum sa ds ω Qc Ec → denS (δ sa) c__law_sum Ec ⟨fun _ ω' => Qc (.d .none) ω', Qc, fun _ _ => False, fun _ _ => False⟩ (startE n__law_sum ds) ω := by
  rintro ds ω Qc Ec hl ⟨t, n, rfl, rfl, a1, a2, q⟩
  simp [c__law_sum, denS, den, startE, n__law_sum]
  refine ⟨by omega, ?_⟩
  refine compL_any (by simp) (fun x hx R hR => by simp; exact fun _ _ _ => hR _) fun zs sz => ?_
  obtain ⟨is, rfl, mo⟩ := sub_rng sz
  rw [show ((n.toNat : Nat) : Int) = n by omega] at mo
  simp [PyData.depth, PyData.depthAll, PyData.eqv]
  cases is with
  | nil =>
    simp [PyData.eqvAll]
    exact ⟨by omega, by omega, fun r r0 r1 => q [r] ⟨by simp; omega, by simp⟩ (by simp)⟩
  | cons a r =>
    simp [PyData.eqvAll]
    exact q (a :: r) mo (by simp)
theorem rd__law_code : ∀ ds (ω : Option Addr) Qc Ec, ds.length = 4 → spCode sa ds ω Qc Ec → denS (δ sa) c__law_code Ec ⟨fun _ ω' => Qc (.d .none) ω', Qc, fun _ _ => False, fun _ _ => False⟩ (startE n__law_code ds) ω := by
  rintro ds ω Qc Ec hl ⟨t, n, most, rfl, rfl, a1, a2, b1, b2, q⟩
  simp [c__law_code, denS, den, startE, n__law_code]
  refine ⟨by omega, by omega, fun cnt c0 c1 => ⟨by omega, ?_⟩⟩
  refine compL_rep (fun y => ∃ is, y = .tuple (iL is) ∧ MsgOk n is ∧ is ≠ []) (fun x hx => ⟨_, by simp; rfl, fun R hR => ?_⟩) fun zs hz hp => ?_
  · simp
    exact ⟨t, n, rfl, rfl, a1, a2, fun is mo ne => hR _ ⟨is, rfl, mo, ne⟩⟩
  · obtain ⟨c, rfl, hc⟩ := sums_of hp
    simp [rngD] at hz ⊢
    exact q c ⟨hc⟩ (by omega)
theorem rd__law_bounds : ∀ ds (ω : Option Addr) Qc Ec, ds.length = 0 → spF f__law_bounds ds ω Qc Ec → denS (δ sa) c__law_bounds Ec ⟨fun _ ω' => Qc (.d .none) ω', Qc, fun _ _ => False, fun _ _ => False⟩ (startE n__law_bounds ds) ω := by
  rintro ds ω Qc Ec hl ⟨r, h, q⟩
  have : ds = [] := List.eq_nil_of_length_eq_zero hl
  subst this
  cases h
  simp [c__law_bounds, denS, den, startE, n__law_bounds]
  refine forL_ind (I := fun xs env ω' => ω = ω' ∧ (∃ s0 s1 : S, env = [s0, s1]) ∧ xs.all isTask = true) ?_ ?_ _ _ _ ⟨rfl, ⟨_, _, rfl⟩, by decide +kernel⟩
  · rintro env ω' ⟨rfl, ⟨s0, s1, rfl⟩, -⟩
    simp
    refine forL_ind (I := fun xs env ω' => ω = ω' ∧ (∃ s0 s1 : S, env = [s0, s1]) ∧ xs.all (fun x => !isTask x) = true) ?_ ?_ _ _ _ ⟨rfl, ⟨_, _, rfl⟩, by decide +kernel⟩
    · rintro env ω' ⟨rfl, ⟨s0, s1, rfl⟩, -⟩
      simp
      refine forL_ind (I := fun xs env ω' => ω = ω' ∧ (∃ s0 s1 : S, env = [s0, s1]) ∧ xs.all (fun x => isCode 3 x) = true) ?_ ?_ _ _ _ ⟨rfl, ⟨_, _, rfl⟩, by decide +kernel⟩
      · rintro env ω' ⟨rfl, ⟨s0, s1, rfl⟩, -⟩
        simp [datsK, dats]
        refine forL_ind (I := fun xs env ω' => ω = ω' ∧ (∃ s0 s1 : S, env = [s0, s1]) ∧ xs.all (fun x => !isCode 3 x) = true) ?_ ?_ _ _ _ ⟨rfl, ⟨_, _, rfl⟩, by decide +kernel⟩
        · rintro env ω' ⟨rfl, ⟨s0, s1, rfl⟩, -⟩
          simpa using q
        · rintro x xs env ω' ih ⟨rfl, ⟨s0, s1, rfl⟩, h⟩
          rw [List.all_cons, Bool.and_eq_true] at h
          have h1 : isCode 3 x = false := by simpa using h.1
          rw [forL_cons]
          simp [h1, btw]
          exact ih _ _ ⟨rfl, ⟨_, _, rfl⟩, h.2⟩
      · rintro x xs env ω' ih ⟨rfl, ⟨s0, s1, rfl⟩, h⟩
        rw [List.all_cons, Bool.and_eq_true] at h
        rw [forL_cons]
        simp [h.1, btw]
        exact ih _ _ ⟨rfl, ⟨_, _, rfl⟩, h.2⟩
    · rintro x xs env ω' ih ⟨rfl, ⟨s0, s1, rfl⟩, h⟩
      rw [List.all_cons, Bool.and_eq_true] at h
      have h1 : isTask x = false := by simpa using h.1
      rw [forL_cons]
      simp [h1]
      exact ih _ _ ⟨rfl, ⟨_, _, rfl⟩, h.2⟩
  · rintro x xs env ω' ih ⟨rfl, ⟨s0, s1, rfl⟩, h⟩
    rw [List.all_cons, Bool.and_eq_true] at h
    rw [forL_cons]
    simp [h.1]
    exact ih _ _ ⟨rfl, ⟨_, _, rfl⟩, h.2⟩
theorem rd_law : ∀ ds (ω : Option Addr) Qc Ec, ds.length = 1 → spLaw sa ds ω Qc Ec → denS (δ sa) c_law Ec ⟨fun _ ω' => Qc (.d .none) ω', Qc, fun _ _ => False, fun _ _ => False⟩ (startE n_law ds) ω := by
  rintro ds ω Qc Ec hl ⟨rfl, rfl, q⟩
  simp [c_law, denS, den, startE, n_law]
  intro t
  refine forL_ind (I := fun xs env ω' => some t = ω' ∧ ∃ s2 s3 s4 s5 s6 s7 s8 s9 s10 : S, env = [.r (.ref sa), .r (.ref t), s2, s3, s4, s5, s6, s7, s8, s9, s10]) ?_ ?_ _ _ _ ⟨rfl, _, _, _, _, _, _, _, _, _, rfl⟩
  · rintro env ω ⟨rfl, s2, s3, s4, s5, s6, s7, s8, s9, s10, rfl⟩
    simpa using q _
  · rintro x xs env ω ih ⟨rfl, s2, s3, s4, s5, s6, s7, s8, s9, s10, rfl⟩
    rw [forL_cons]
    simp
    refine ⟨t, 6, 6, rfl, rfl, by decide, by decide, by decide, by decide, fun n rs ok h1 h2 => ?_⟩
    have ht := isTask_d.mpr ok
    have hl : isTask (.list [.int n, .tuple (rs.map rcD)]) = false := rfl
    unfold taskD at ht ⊢
    simp [ht, hl]
    have r1 := ok.r1
    have r6 := ok.r6
    refine ⟨by omega, by omega, fun at_ at0 at1 => ?_⟩
    obtain ⟨k, rfl⟩ : ∃ k : Nat, at_ = k := ⟨at_.toNat, by omega⟩
    have hk : k < rs.length := by omega
    obtain ⟨w, ks, hr⟩ : ∃ w ks, rs[k] = (w, ks) := ⟨_, _, rfl⟩
    have rok : RcOk n (w, ks) := hr ▸ ok.ok _ (List.getElem_mem hk)
    have hat : atI (rs.map rcD) (k : Int) = some (.tuple [.int w, .tuple (iL ks)]) := atI_nat (by rw [List.getElem?_map, List.getElem?_eq_getElem hk, hr]; rfl)
    refine ⟨_, hat, ?_⟩
    simp
    have n1 := ok.n1
    have n6 := ok.n6
    have hkl : (ks.length : Int) ≤ n := rok.ms.len (by omega)
    refine ⟨by omega, ?_⟩
    refine forL_ind (I := fun ys env ω' => some t = ω' ∧ (∃ s9 : S, env = [.r (.ref sa), .r (.ref t), .d x, .d (.tuple [.int n, .tuple (rs.map rcD)]), .d (.int n), .d (.tuple (rs.map rcD)), .d (.int k), .d (.int w), .d (.tuple (iL ks)), s9, s10]) ∧ ∀ y ∈ ys, isRecv n y = false) ?_ ?_ _ _ _ ⟨rfl, ⟨_, rfl⟩, ?_⟩
    · rintro env ω ⟨rfl, ⟨s9, rfl⟩, -⟩
      simp
      refine ⟨t, n, 6, rfl, rfl, n1, n6, by decide, by decide, fun c co cl => ?_⟩
      have hc := isCode_d co (by omega)
      have hb : (decide (1 ≤ n) && decide (n ≤ 6)) = true := by simp [n1, n6]
      unfold codeD at hc ⊢
      have hl2 : isCode n (.list (c.map fun is => .tuple (iL is))) = false := rfl
      simp [btw, n1, n6, hc, hl2]
      refine forL_ind (I := fun ys env ω' => some t = ω' ∧ (∃ s9 : S, env = [.r (.ref sa), .r (.ref t), .d x, .d (.tuple [.int n, .tuple (rs.map rcD)]), .d (.int n), .d (.tuple (rs.map rcD)), .d (.int k), .d (.int w), .d (.tuple (iL ks)), s9, .d (.tuple (c.map fun is => .tuple (iL is)))]) ∧ ∀ y ∈ ys, isSum n y = false) ?_ ?_ _ _ _ ⟨rfl, ⟨_, rfl⟩, ?_⟩
      · rintro env ω ⟨rfl, ⟨s9, rfl⟩, -⟩
        simp
        exact ih _ _ ⟨rfl, _, _, _, _, _, _, _, _, _, rfl⟩
      · rintro y ys env ω ih2 ⟨rfl, ⟨s9, rfl⟩, hy⟩
        have h1 := hy y List.mem_cons_self
        rw [forL_cons]
        simp [isCode_odd h1, btw, n1, n6]
        exact ⟨by omega, ih2 _ _ ⟨rfl, ⟨_, rfl⟩, fun z hz => hy z (List.mem_cons_of_mem _ hz)⟩⟩
      · have b0 : btw (.int n) 0 (n - 1) = false := by simp [btw]; omega
        intro y hy
        simp at hy
        rcases hy with rfl | rfl | rfl | rfl | rfl | rfl | rfl
        · simp [isSum, PyData.eqv, PyData.eqvAll]
        · simp [isSum, areM, b0]
        · rfl
        · rfl
        · rfl
        · rfl
        · rfl
    · rintro y ys env ω ih2 ⟨rfl, ⟨s9, rfl⟩, hy⟩
      have h1 := hy y List.mem_cons_self
      have l1 := cutD_le (rs.map rcD) none (some (k : Int))
      have l2 := cutD_le (rs.map rcD) (some ((k : Int) + 1)) none
      rw [List.length_map] at l1 l2
      rw [forL_cons]
      simp [isTask_odd h1]
      exact ⟨by omega, by omega, ih2 _ _ ⟨rfl, ⟨_, rfl⟩, fun z hz => hy z (List.mem_cons_of_mem _ hz)⟩⟩
    · have b0 : btw (.int n) 0 (n - 1) = false := by simp [btw]; omega
      intro y hy
      simp at hy
      rcases hy with rfl | rfl | rfl | rfl | rfl
      · simp [isRecv, areM, b0]
      · simp [isRecv, memT, memD]
      · simp [isRecv, b0]
      · rfl
      · rfl
end
end L01
namespace L01
open PySem PySem.Spec PyProof.Rows L2 Q
def fn : List He.DefD := [⟨("is_between", none), "is_between", "is_between", defArgs s_is_between, defBody s_is_between, defScope s_is_between, [], []⟩, ⟨("is_ascending", none), "is_ascending", "is_ascending", defArgs s_is_ascending, defBody s_is_ascending, defScope s_is_ascending, [], []⟩, ⟨("are_messages", none), "are_messages", "are_messages", defArgs s_are_messages, defBody s_are_messages, defScope s_are_messages, [], []⟩, ⟨("is_receiver", none), "is_receiver", "is_receiver", defArgs s_is_receiver, defBody s_is_receiver, defScope s_is_receiver, [], []⟩, ⟨("is_task", none), "is_task", "is_task", defArgs s_is_task, defBody s_is_task, defScope s_is_task, [], []⟩, ⟨("check_messages", none), "check_messages", "check_messages", defArgs s_check_messages, defBody s_check_messages, defScope s_check_messages, [], []⟩, ⟨("is_sum", none), "is_sum", "is_sum", defArgs s_is_sum, defBody s_is_sum, defScope s_is_sum, [], []⟩, ⟨("is_code_of", none), "is_code_of", "is_code_of", defArgs s_is_code_of, defBody s_is_code_of, defScope s_is_code_of, [], []⟩, ⟨("is_code", none), "is_code", "is_code", defArgs s_is_code, defBody s_is_code, defScope s_is_code, [], []⟩, ⟨("_law_is", none), "_law_is", "_law_is", defArgs s__law_is, defBody s__law_is, defScope s__law_is, [], []⟩, ⟨("_law_draw", none), "_law_draw", "_law_draw", defArgs s__law_draw, defBody s__law_draw, defScope s__law_draw, [], []⟩, ⟨("_law_begun", none), "_law_begun", "_law_begun", defArgs s__law_begun, defBody s__law_begun, defScope s__law_begun, [], []⟩, ⟨("_law_task", none), "_law_task", "_law_task", defArgs s__law_task, defBody s__law_task, defScope s__law_task, [], []⟩, ⟨("_law_sum", none), "_law_sum", "_law_sum", defArgs s__law_sum, defBody s__law_sum, defScope s__law_sum, [], []⟩, ⟨("_law_code", none), "_law_code", "_law_code", defArgs s__law_code, defBody s__law_code, defScope s__law_code, [], []⟩, ⟨("_law_bounds", none), "_law_bounds", "_law_bounds", defArgs s__law_bounds, defBody s__law_bounds, defScope s__law_bounds, [], []⟩, ⟨("law", none), "law", "law", defArgs s_law, defBody s_law, defScope s_law, [], []⟩]
def fa : List He.Fa := ([.free "len", .free "tuple", .free "list", .free "all", .free "sorted", .free "min", .free "max", .free "isinstance", .free "int", .free "bool", .free "str", .free "range", .free "zip", .free "enumerate", .free "set", .free "dict", .glo "is_between", .glo "is_ascending", .glo "are_messages", .glo "is_receiver", .glo "is_task", .glo "check_messages", .glo "is_sum", .glo "is_code_of", .glo "is_code", .glo "_law_is", .glo "_law_draw", .glo "_law_begun", .glo "_law_task", .glo "_law_sum"] : List He.Fa) ++ ([.glo "_law_code", .glo "_law_bounds", .glo "law", .int "MOST" 6, .int "SUMS" 8, .glo "CastError", .exc "CastError", .glo "InvalidMessages", .exc "InvalidMessages"] : List He.Fa)
abbrev R : PySem.W.OpenRow := PySem.W.OpenLaw.row PySem.Challenge.rw_codecast_k01_not_tasks
abbrev hk : PySem.W.Hook := He.hookD 4 fa fn
def ob (s : PySem.W.SharedT) : He.AlD := He.obsDG 4 fa fn (HandSHeadRun.getT s)
theorem ob_eq (s : PySem.W.SharedT) : ob s = hk.obs s.abs := He.obsDG_eq (HandSHeadRun.getT_eq s)
def loose : List Str := (["CastError", "InvalidMessages", "MOST", "SUMS", "is_between", "is_ascending", "are_messages", "is_receiver", "is_task", "check_messages", "is_sum", "is_code_of", "is_code", "_law_is", "_law_draw", "_law_begun", "_law_task", "_law_sum", "_law_code", "_law_bounds"] : List Str)
theorem run (w : World) : HandSHeadRun.RunEq R (PySem.W.view R.prog [23]) hk ob 6000 loose w := by
  intro os
  kernel_rfl
def cxs (K : PySem.W.Frag) (c : Nat) : Value := match c with
  | 0 => .ref (He.ga K "CastError")
  | 1 => .ref (He.ga K "InvalidMessages")
  | _ => .none
section
variable {P : Program} {w : World} {K : PySem.W.Frag} {h : Heap} {mg : Str → Option Value}
theorem txt {sa : Addr} (X : K.In h) (Gn : h.Ns mainGlobals mg) (c : He.SaysD fa fn K) : Txt (δ sa) G (cxs K) K mg where
  blt := fun x hx => by
    rw [bltNames] at hx
    simp only [List.mem_cons, List.not_mem_nil, or_false] at hx
    rcases hx with rfl | rfl | rfl | rfl | rfl | rfl | rfl | rfl | rfl | rfl | rfl | rfl | rfl | rfl | rfl | rfl
    · exact He.free_ok X Gn (c.fact 0 (f := .free "len") rfl)
    · exact He.free_ok X Gn (c.fact 1 (f := .free "tuple") rfl)
    · exact He.free_ok X Gn (c.fact 2 (f := .free "list") rfl)
    · exact He.free_ok X Gn (c.fact 3 (f := .free "all") rfl)
    · exact He.free_ok X Gn (c.fact 4 (f := .free "sorted") rfl)
    · exact He.free_ok X Gn (c.fact 5 (f := .free "min") rfl)
    · exact He.free_ok X Gn (c.fact 6 (f := .free "max") rfl)
    · exact He.free_ok X Gn (c.fact 7 (f := .free "isinstance") rfl)
    · exact He.free_ok X Gn (c.fact 8 (f := .free "int") rfl)
    · exact He.free_ok X Gn (c.fact 9 (f := .free "bool") rfl)
    · exact He.free_ok X Gn (c.fact 10 (f := .free "str") rfl)
    · exact He.free_ok X Gn (c.fact 11 (f := .free "range") rfl)
    · exact He.free_ok X Gn (c.fact 12 (f := .free "zip") rfl)
    · exact He.free_ok X Gn (c.fact 13 (f := .free "enumerate") rfl)
    · exact He.free_ok X Gn (c.fact 14 (f := .free "set") rfl)
    · exact He.free_ok X Gn (c.fact 15 (f := .free "dict") rfl)
  con := fun k x e => by
    cases k with
    | zero => cases e; obtain ⟨t, q⟩ := He.int_ok X Gn (c.fact 33 (f := .int "MOST" 6) rfl); exact ⟨6, t, q, rfl⟩
    | succ k =>
      cases k with
      | zero => cases e; obtain ⟨t, q⟩ := He.int_ok X Gn (c.fact 34 (f := .int "SUMS" 8) rfl); exact ⟨8, t, q, rfl⟩
      | succ k =>
        cases e
  exs := fun k x e => by
    cases k with
    | zero =>
      cases e
      obtain ⟨a1, a2, a3, a4⟩ := He.exc_ok (c.fact 36 (f := .exc "CastError") rfl)
      exact ⟨_, rfl, He.glo_ok X Gn (c.fact 35 (f := .glo "CastError") rfl), a1, a2, a3, a4⟩
    | succ k =>
      cases k with
      | zero =>
        cases e
        obtain ⟨a1, a2, a3, a4⟩ := He.exc_ok (c.fact 38 (f := .exc "InvalidMessages") rfl)
        exact ⟨_, rfl, He.glo_ok X Gn (c.fact 37 (f := .glo "InvalidMessages") rfl), a1, a2, a3, a4⟩
      | succ k =>
        cases e
theorem chain {sa : Addr} {ns : List Int} (hns : ns.length ≤ 63) (X : K.In h) (Gn : h.Ns mainGlobals mg) (c : He.SaysD fa fn K) (base : Heap) : ∃ fd, FunD K "law" "law" (defArgs s_law) (defBody s_law) (defScope s_law) [] [] (He.ga K "law") fd ∧ FnOk P w K mg base (L2.CX P w) 17 (He.ga K "law") fd ["script"] (spOf (Wd K sa ns) (cxs K) 1 (spLaw sa)) := by
  have T := txt (sa := sa) X Gn c
  have P0 : Prev (Wd K sa ns) (δ sa) G (cxs K) P w K mg base 0 := Prev.zero
  obtain ⟨fd0, F0⟩ := c.def_ 0 (d := ⟨("is_between", none), "is_between", "is_between", defArgs s_is_between, defBody s_is_between, defScope s_is_between, [], []⟩) rfl
  have b0 : L2.Binds K fd0 ["value", "low", "high"] [] := F0.bindsN fun _ _ _ _ _ _ us hl => match us, hl with | [_, _, _], _ => rfl
  have P1 := P0.snoc (x := "is_between") rfl rfl ⟨rfl, He.glo_ok X Gn (c.fact 16 (f := .glo "is_between") rfl), F0.kp, b0, (fun n ks hm => by simp [G] at hm), def_ok T P0 F0 sc_is_between ck_is_between rd_is_between⟩
  obtain ⟨fd1, F1⟩ := c.def_ 1 (d := ⟨("is_ascending", none), "is_ascending", "is_ascending", defArgs s_is_ascending, defBody s_is_ascending, defScope s_is_ascending, [], []⟩) rfl
  have b1 : L2.Binds K fd1 ["values"] [] := F1.bindsN fun _ _ _ _ _ _ us hl => match us, hl with | [_], _ => rfl
  have P2 := P1.snoc (x := "is_ascending") rfl rfl ⟨rfl, He.glo_ok X Gn (c.fact 17 (f := .glo "is_ascending") rfl), F1.kp, b1, (fun n ks hm => by simp [G] at hm), def_ok T P1 F1 sc_is_ascending ck_is_ascending rd_is_ascending⟩
  obtain ⟨fd2, F2⟩ := c.def_ 2 (d := ⟨("are_messages", none), "are_messages", "are_messages", defArgs s_are_messages, defBody s_are_messages, defScope s_are_messages, [], []⟩) rfl
  have b2 : L2.Binds K fd2 ["messages", "value"] [] := F2.bindsN fun _ _ _ _ _ _ us hl => match us, hl with | [_, _], _ => rfl
  have P3 := P2.snoc (x := "are_messages") rfl rfl ⟨rfl, He.glo_ok X Gn (c.fact 18 (f := .glo "are_messages") rfl), F2.kp, b2, (fun n ks hm => by simp [G] at hm), def_ok T P2 F2 sc_are_messages ck_are_messages rd_are_messages⟩
  obtain ⟨fd3, F3⟩ := c.def_ 3 (d := ⟨("is_receiver", none), "is_receiver", "is_receiver", defArgs s_is_receiver, defBody s_is_receiver, defScope s_is_receiver, [], []⟩) rfl
  have b3 : L2.Binds K fd3 ["messages", "value"] [] := F3.bindsN fun _ _ _ _ _ _ us hl => match us, hl with | [_, _], _ => rfl
  have P4 := P3.snoc (x := "is_receiver") rfl rfl ⟨rfl, He.glo_ok X Gn (c.fact 19 (f := .glo "is_receiver") rfl), F3.kp, b3, (fun n ks hm => by simp [G] at hm), def_ok T P3 F3 sc_is_receiver ck_is_receiver rd_is_receiver⟩
  obtain ⟨fd4, F4⟩ := c.def_ 4 (d := ⟨("is_task", none), "is_task", "is_task", defArgs s_is_task, defBody s_is_task, defScope s_is_task, [], []⟩) rfl
  have b4 : L2.Binds K fd4 ["value"] [] := F4.bindsN fun _ _ _ _ _ _ us hl => match us, hl with | [_], _ => rfl
  have P5 := P4.snoc (x := "is_task") rfl rfl ⟨rfl, He.glo_ok X Gn (c.fact 20 (f := .glo "is_task") rfl), F4.kp, b4, (fun n ks hm => by
    simp [G] at hm
    rcases hm with ⟨rfl, rfl⟩
    · exact kb_of F4 (by simp) fun _ _ _ _ _ _ us ws h1 h2 => match us, ws, h1, h2 with | [], [_], _, _ => rfl), def_ok T P4 F4 sc_is_task ck_is_task rd_is_task⟩
  obtain ⟨fd5, F5⟩ := c.def_ 5 (d := ⟨("check_messages", none), "check_messages", "check_messages", defArgs s_check_messages, defBody s_check_messages, defScope s_check_messages, [], []⟩) rfl
  have b5 : L2.Binds K fd5 ["messages"] [] := F5.bindsN fun _ _ _ _ _ _ us hl => match us, hl with | [_], _ => rfl
  have P6 := P5.snoc (x := "check_messages") rfl rfl ⟨rfl, He.glo_ok X Gn (c.fact 21 (f := .glo "check_messages") rfl), F5.kp, b5, (fun n ks hm => by simp [G] at hm), def_ok T P5 F5 sc_check_messages ck_check_messages rd_check_messages⟩
  obtain ⟨fd6, F6⟩ := c.def_ 6 (d := ⟨("is_sum", none), "is_sum", "is_sum", defArgs s_is_sum, defBody s_is_sum, defScope s_is_sum, [], []⟩) rfl
  have b6 : L2.Binds K fd6 ["messages", "value"] [] := F6.bindsN fun _ _ _ _ _ _ us hl => match us, hl with | [_, _], _ => rfl
  have P7 := P6.snoc (x := "is_sum") rfl rfl ⟨rfl, He.glo_ok X Gn (c.fact 22 (f := .glo "is_sum") rfl), F6.kp, b6, (fun n ks hm => by simp [G] at hm), def_ok T P6 F6 sc_is_sum ck_is_sum rd_is_sum⟩
  obtain ⟨fd7, F7⟩ := c.def_ 7 (d := ⟨("is_code_of", none), "is_code_of", "is_code_of", defArgs s_is_code_of, defBody s_is_code_of, defScope s_is_code_of, [], []⟩) rfl
  have b7 : L2.Binds K fd7 ["messages", "value"] [] := F7.bindsN fun _ _ _ _ _ _ us hl => match us, hl with | [_, _], _ => rfl
  have P8 := P7.snoc (x := "is_code_of") rfl rfl ⟨rfl, He.glo_ok X Gn (c.fact 23 (f := .glo "is_code_of") rfl), F7.kp, b7, (fun n ks hm => by simp [G] at hm), def_ok T P7 F7 sc_is_code_of ck_is_code_of rd_is_code_of⟩
  obtain ⟨fd8, F8⟩ := c.def_ 8 (d := ⟨("is_code", none), "is_code", "is_code", defArgs s_is_code, defBody s_is_code, defScope s_is_code, [], []⟩) rfl
  have b8 : L2.Binds K fd8 ["messages", "value"] [] := F8.bindsN fun _ _ _ _ _ _ us hl => match us, hl with | [_, _], _ => rfl
  have P9 := P8.snoc (x := "is_code") rfl rfl ⟨rfl, He.glo_ok X Gn (c.fact 24 (f := .glo "is_code") rfl), F8.kp, b8, (fun n ks hm => by
    simp [G] at hm
    rcases hm with ⟨rfl, rfl⟩
    · exact kb_of F8 (by simp) fun _ _ _ _ _ _ us ws h1 h2 => match us, ws, h1, h2 with | [], [_, _], _, _ => rfl), def_ok T P8 F8 sc_is_code ck_is_code rd_is_code⟩
  obtain ⟨fd9, F9⟩ := c.def_ 9 (d := ⟨("_law_is", none), "_law_is", "_law_is", defArgs s__law_is, defBody s__law_is, defScope s__law_is, [], []⟩) rfl
  have b9 : L2.Binds K fd9 ["result", "expected"] [] := F9.bindsN fun _ _ _ _ _ _ us hl => match us, hl with | [_, _], _ => rfl
  have P10 := P9.snoc (x := "_law_is") rfl rfl ⟨rfl, He.glo_ok X Gn (c.fact 25 (f := .glo "_law_is") rfl), F9.kp, b9, (fun n ks hm => by simp [G] at hm), def_ok T P9 F9 sc__law_is ck__law_is rd__law_is⟩
  obtain ⟨fd10, F10⟩ := c.def_ 10 (d := ⟨("_law_draw", none), "_law_draw", "_law_draw", defArgs s__law_draw, defBody s__law_draw, defScope s__law_draw, [], []⟩) rfl
  have b10 : L2.Binds K fd10 ["script", "town", "many"] [] := F10.bindsN fun _ _ _ _ _ _ us hl => match us, hl with | [_, _, _], _ => rfl
  have P11 := P10.snoc (x := "_law_draw") rfl rfl ⟨rfl, He.glo_ok X Gn (c.fact 26 (f := .glo "_law_draw") rfl), F10.kp, b10, (fun n ks hm => by simp [G] at hm), (ok__law_draw hns F10 (T.blt "len" (by decide))).mono (by decide)⟩
  obtain ⟨fd11, F11⟩ := c.def_ 11 (d := ⟨("_law_begun", none), "_law_begun", "_law_begun", defArgs s__law_begun, defBody s__law_begun, defScope s__law_begun, [], []⟩) rfl
  have b11 : L2.Binds K fd11 [] [] := F11.bindsN fun _ _ _ _ _ _ us hl => match us, hl with | [], _ => rfl
  have P12 := P11.snoc (x := "_law_begun") rfl rfl ⟨rfl, He.glo_ok X Gn (c.fact 27 (f := .glo "_law_begun") rfl), F11.kp, b11, (fun n ks hm => by simp [G] at hm), (ok__law_begun F11).mono (by decide)⟩
  obtain ⟨fd12, F12⟩ := c.def_ 12 (d := ⟨("_law_task", none), "_law_task", "_law_task", defArgs s__law_task, defBody s__law_task, defScope s__law_task, [], []⟩) rfl
  have b12 : L2.Binds K fd12 ["script", "town", "most", "many"] [] := F12.bindsN fun _ _ _ _ _ _ us hl => match us, hl with | [_, _, _, _], _ => rfl
  have P13 := P12.snoc (x := "_law_task") rfl rfl ⟨rfl, He.glo_ok X Gn (c.fact 28 (f := .glo "_law_task") rfl), F12.kp, b12, (fun n ks hm => by simp [G] at hm), def_ok T P12 F12 sc__law_task ck__law_task rd__law_task⟩
  obtain ⟨fd13, F13⟩ := c.def_ 13 (d := ⟨("_law_sum", none), "_law_sum", "_law_sum", defArgs s__law_sum, defBody s__law_sum, defScope s__law_sum, [], []⟩) rfl
  have b13 : L2.Binds K fd13 ["script", "town", "messages_here"] [] := F13.bindsN fun _ _ _ _ _ _ us hl => match us, hl with | [_, _, _], _ => rfl
  have P14 := P13.snoc (x := "_law_sum") rfl rfl ⟨rfl, He.glo_ok X Gn (c.fact 29 (f := .glo "_law_sum") rfl), F13.kp, b13, (fun n ks hm => by simp [G] at hm), def_ok T P13 F13 sc__law_sum ck__law_sum rd__law_sum⟩
  obtain ⟨fd14, F14⟩ := c.def_ 14 (d := ⟨("_law_code", none), "_law_code", "_law_code", defArgs s__law_code, defBody s__law_code, defScope s__law_code, [], []⟩) rfl
  have b14 : L2.Binds K fd14 ["script", "town", "messages_here", "most"] [] := F14.bindsN fun _ _ _ _ _ _ us hl => match us, hl with | [_, _, _, _], _ => rfl
  have P15 := P14.snoc (x := "_law_code") rfl rfl ⟨rfl, He.glo_ok X Gn (c.fact 30 (f := .glo "_law_code") rfl), F14.kp, b14, (fun n ks hm => by simp [G] at hm), def_ok T P14 F14 sc__law_code ck__law_code rd__law_code⟩
  obtain ⟨fd15, F15⟩ := c.def_ 15 (d := ⟨("_law_bounds", none), "_law_bounds", "_law_bounds", defArgs s__law_bounds, defBody s__law_bounds, defScope s__law_bounds, [], []⟩) rfl
  have b15 : L2.Binds K fd15 [] [] := F15.bindsN fun _ _ _ _ _ _ us hl => match us, hl with | [], _ => rfl
  have P16 := P15.snoc (x := "_law_bounds") rfl rfl ⟨rfl, He.glo_ok X Gn (c.fact 31 (f := .glo "_law_bounds") rfl), F15.kp, b15, (fun n ks hm => by simp [G] at hm), def_ok T P15 F15 sc__law_bounds ck__law_bounds rd__law_bounds⟩
  obtain ⟨fd16, F16⟩ := c.def_ 16 (d := ⟨("law", none), "law", "law", defArgs s_law, defBody s_law, defScope s_law, [], []⟩) rfl
  exact ⟨fd16, F16, def_ok T P16 F16 sc_law ck_law rd_law⟩
theorem facts {f : Addr} (X : K.In h) (Gn : h.Ns mainGlobals mg) (hfa : mg ("law" : Str) = some (.ref f)) (c : He.SaysD fa fn K) : ∃ fd : FuncData, (∀ (s : Shared) (v : Value), BindsTo s fd ⟨[v], []⟩ [("script", v)]) ∧ ∀ base : Heap, FnOk P w K mg base (CXA P) 17 f fd ["script"] (spTop K) := by
  have e := hfa.symm.trans (He.glo_ok X Gn (c.fact 32 (f := .glo "law") rfl))
  cases e
  obtain ⟨fd, F⟩ := c.def_ 16 (d := ⟨("law", none), "law", "law", defArgs s_law, defBody s_law, defScope s_law, [], []⟩) rfl
  have b := FunD.bindsA (ps := ["script"]) F fun _ _ _ _ _ _ us hl => match us, hl with | [_], _ => rfl
  refine ⟨fd, fun s v => b s [v] rfl, fun base => top_ok (cx := cxs K) fun sa ns hns => ?_⟩
  obtain ⟨fd2, F2, ok⟩ := chain (P := P) (w := w) (sa := sa) hns X Gn c base
  cases funD_same F F2
  exact ok
end
end L01
open PySem PySem.W PySem.Calls PyProof.Rows
theorem PySem.Challenge.cw_codecast_k01_not_tasks_holds : PySem.Challenge.rw_codecast_k01_not_tasks.Holds := by
  w_on; o_law
  refine HandSHeadRun.head_any (r := OpenLaw.row PySem.Challenge.rw_codecast_k01_not_tasks) (q := view (OpenLaw.row PySem.Challenge.rw_codecast_k01_not_tasks).prog [23]) (H := L01.hk) (ob := L01.ob) (M := 6000) (loose := L01.loose) (d := HandSHeadRun.topDef (OpenLaw.row PySem.Challenge.rw_codecast_k01_not_tasks).prog 23) (kwd := []) L01.ob_eq
    (by kernel_rfl) (fun s => by kernel_rfl) L01.run (by kernel_rfl) (by kernel_rfl) (by kernel_rfl) (by rfl) (by first | assumption | decide +kernel) (by decide +kernel) ⟨rfl, rfl, rfl, rfl, rfl, by decide +kernel⟩ ?hw ?hc
  case hw => w_witness2
  case hc =>
    refine L2.walk_ofE (l := PySem.Challenge.rw_codecast_k01_not_tasks) (n := 63) (k := 17) (x := "script") (CX := Q.CXA (PySem.Challenge.rw_codecast_k01_not_tasks).prog) rfl (by decide) (by kernel_rfl) ⟨rfl, by decide, by decide⟩ ?F Q.cx_no
    intro w mg fa h Y G hmg0
    obtain ⟨K, KX, c⟩ := Y
    have hmg : mg ("law" : PySem.Str) = some (.ref fa) := by
      have e : (HandSHeadRun.topDef (OpenLaw.row PySem.Challenge.rw_codecast_k01_not_tasks).prog 23).name = ("law" : PySem.Str) := by kernel_rfl
      rw [← e]
      exact hmg0
    obtain ⟨fd, hb, hF⟩ := L01.facts (P := (PySem.Challenge.rw_codecast_k01_not_tasks).prog) (w := w) KX G hmg c
    exact ⟨K, fd, Q.spTop K, KX, hb, fun H a ns hl _ hS => ⟨a, ns, rfl, hl, hS, fun _ => rfl⟩, fun base _ _ => hF base⟩
